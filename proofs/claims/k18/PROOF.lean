import PyProof.Rows.All
import Wide.All
import OpenK.AllK
import Wide.FinOn
import HandS.ForMost
import HandS.ForExc
import HandS.Property
import HandS.IsInst
import HandS.ExcInit
import HandS.Defaults
import HandS.MakeKwOnly
import HandS.Flow
import HandS.CallSlots
import HandS.Evl
import HandS.Wide
import HandS.Walk
import HandS.Conv
import HandS.Style
import HandS.Base
import HandS.List
import HandS.Words
import HandS.SortInts
import PyProof.ReprRoads
import PyProof.ReprLen
import HandS.More
import KE.DataFind
import PyProof.DictUpdate
import HandS.OwnEq
import HandS.Strs
import HandS.SetFor
import HandS.TupSets
import HandS.DictComp
import HandS.TupAny
import KE.BitLaws
import HandS.TupMul
import HandS.Zip
import HandS.Iter
import HandS.SortRule
import KE.GoesMore
import HandS.CallLocal
import HandS.ExcOwn
import KE.KTupSum
import KE.KDictZip
import HandS.Text
import HandS.FStr
import HandS.RaiseMore
import KE.IntTextText
import KE.IntTextLaws
import PyProof.Rows.StrDigitsNeg
import PySem.Challenge.RW_orderlycore_k18_whole_listing
set_option Elab.async false
set_option linter.all false
set_option maxRecDepth 100000
set_option maxHeartbeats 4000000
set_option synthInstance.maxSize 1000
set_option synthInstance.maxHeartbeats 400000

namespace Toy
open PySem L2
theorem exm_self {K : PySem.W.Frag} {S : Addr} (h1 : PySem.W.subIn K (.ref S) (.type "BaseException") = some true) (h2 : PySem.W.isClsIn K S = true) (h3 : PySem.W.typeIn K (.ref S) = some (.type "type")) (h4 : PySem.W.subIn K (.ref S) (.ref S) = some true) :
    PySem.W.exmOne K (.ref S) (.ref S) = some true := by
  have e1 : (PySem.W.subIn K (.ref S) (.type "BaseException") == some true) = true := by rw [h1] <;> rfl
  have e2 : ((PySem.W.clsIn K S).isSome && PySem.W.typeIn K (.ref S) == some (.type "type")) = true := by
    have h2' : (PySem.W.clsIn K S).isSome = true := h2
    rw [h2', h3] <;> rfl
  show (if (PySem.W.subIn K (.ref S) (.type "BaseException") == some true) = true then (if ((PySem.W.clsIn K S).isSome && PySem.W.typeIn K (.ref S) == some (.type "type")) = true then PySem.W.subIn K (.ref S) (.ref S) else none) else none) = some true
  rw [if_pos e1, if_pos e2]
  exact h4
theorem vals_getD {vs : List V} {us : List Value} (r : Vals vs us) (i : Nat) : RelV (vs.getD i V.non) (us.getD i PySem.Value.none) := by
  induction r generalizing i with
  | nil => rfl
  | cons h t ih =>
    cases i with
    | zero => exact h
    | succ i => exact ih i
theorem kbn_of {K : PySem.W.Frag} {x qual : Str} {st : Stmt} {f : Addr} {fd : FuncData} {ps ks : List Str} {n : Nat} {g : List Value → List Value → List Value} {gV : List V → List V → List V} (F : Fun K x qual st f fd)
    (h : ∀ (kV doc pm : Value) (an : Option Addr) (cdv ct : Value) (us ws : List Value), us.length = n → ws.length = ks.length → bindArgs (PySem.W.fnOf x qual (defArgs st) (defBody st) (defScope st) .none kV doc pm an cdv ct) ⟨us, ks.zip ws⟩ = pure (ps.zip (g us ws)))
    (hr : ∀ {vs : List V} {us : List Value} {zs : List V} {ws : List Value}, Vals vs us → Vals zs ws → Vals (gV vs zs) (g us ws)) : KBn K fd ps n ks g gV := by
  obtain ⟨oc, od, kV, doc, pm, an, cdv, ct, osl, rfl, lk, hcd⟩ := F.ex
  exact ⟨fun s us ws _ h1 h2 => .of_eq (h kV doc pm an cdv ct us ws h1 h2), hr⟩
theorem same_new {H : Hp} {p : Addr} {o : HO} (h : H p = none) : Same H (upd H p o) := fun b u e => by
  rw [upd_ne (ne_of_none e h)]
  exact e
theorem same_ty {K : PySem.W.Frag} {H H' : Hp} {v : V} {t : Value} (e : Same H H') (h : TyX K H v t) : TyX K H' v t := by
  cases h with
  | base h =>
    refine .base ?_
    cases h with
    | non => exact .non
    | bl x => exact .bl x
    | int i => exact .int i
    | str x => exact .str x
    | flt x => exact .flt x
    | lst q => exact .lst (e _ _ q)
    | frz q => exact .frz (e _ _ q)
    | tup q => exact .tup (e _ _ q)
    | dK q => exact .dK (e _ _ q)
    | dT q => exact .dT (e _ _ q)
    | ins q cl ha hn htk hm => exact .ins (e _ _ q) cl ha hn htk hm
  | byt b => exact .byt b
  | set q => exact .set (e _ _ q)
  | kList q c => exact .kList q c
  | kTuple q c => exact .kTuple q c
  | kDict q c => exact .kDict q c
  | fTuple q => exact .fTuple (e _ _ q)
  | fDict q => exact .fDict (e _ _ q)
/-! ### stepping through a reading -/
section
variable {K : PySem.W.Frag} {σ τ : St} {H H' : Hp} {Q : VK} {D : Ends} {nx bk ct : St → Hp → Prop} {rt : VK} {v x y : V} {te ta tb : TE} {t u : TS} {c d : TT} {p : Addr}
theorem w_in {N : List Str} {vs : List V} (h : start N vs = σ) (q : t D σ H) : t D (start N vs) H := by rw [h]; exact q
theorem w_var {i : Nat} (h : σ[i]? = some (some v)) (q : Q v H) : tVar i σ H Q := ⟨v, h, q⟩
theorem w_c (q : Q v H) : tC v σ H Q := q
theorem w_op {r : R2} (q : ta σ H fun x H1 => tb σ H1 fun y H2 => r x y H2 Q) : tOp r ta tb σ H Q := q
theorem w_un {r : V → Hp → VK → Prop} (q : ta σ H fun x H1 => r x H1 Q) : tUn r ta σ H Q := q
theorem w_I0 {g : Int → Int → V} {i j : Int} (q : Q (g i j) H) : rI0 g (.int i) (.int j) H Q := ⟨i, j, rfl, rfl, q⟩
theorem w_I {C : Int → Int → Prop} {g : Int → Int → V} {i j : Int} (hc : C i j) (q : Q (g i j) H) : rI C g (.int i) (.int j) H Q := ⟨i, j, rfl, rfl, hc, q⟩
theorem w_U {g : Int → V} {i : Int} (q : Q (g i) H) : rU g (.int i) H Q := ⟨i, rfl, q⟩
theorem w_eq (h : scal x y = true) (q : Q (.bl (decide (x = y))) H) : rEq x y H Q := ⟨h, q⟩
theorem w_ne (h : scal x y = true) (q : Q (.bl (!decide (x = y))) H) : rNe x y H Q := ⟨h, q⟩
theorem w_cb {r : List V → Hp → VK → Prop} {t : TA} (q : t σ H fun vs H1 => r vs H1 Q) : tCB r t σ H Q := q
theorem w_nil {Q : List V → Hp → Prop} (q : Q [] H) : tNil σ H Q := q
theorem w_cons {Q : List V → Hp → Prop} {tr : TA} (q : ta σ H fun x H1 => tr σ H1 fun xs H2 => Q (x :: xs) H2) : tCons ta tr σ H Q := q
theorem w_call {sp : Sp} {dvs : List V} {E : XK} {t : TA} (q : t σ H fun vs H1 => sp (vs ++ dvs) H1 Q E) : tCall sp dvs E t σ H Q := q
theorem w_tup {t : TA} (q : t σ H fun xs H1 => xs.length ≤ sizeLine ∧ ∀ p, H1 p = none → Q (.ref p) (upd H1 p (.tup xs))) : tTup t σ H Q := q
theorem w_lst {t : TA} (q : t σ H fun xs H1 => xs.length ≤ sizeLine ∧ ∀ p, H1 p = none → Q (.ref p) (upd H1 p (.lst xs))) : tLst t σ H Q := q
theorem w_laid {n : Nat} {R : Addr → Prop} (h : n ≤ 100000) (q : ∀ p, H p = none → R p) : n ≤ sizeLine ∧ ∀ p, H p = none → R p := ⟨Nat.le_trans h (by decide), q⟩
def kFld (K : PySem.W.Frag) (f : Str) (Q : VK) (x : V) (H : Hp) : Prop := ∃ a C dx fs v, x = .ref a ∧ H a = some (.ins C dx fs) ∧ Cls K C ∧ NoAttr K C f ∧ fs.lookup f = some v ∧ Q v H
theorem w_fld0 {f : Str} (q : ta σ H fun x H1 => kFld K f Q x H1) : tFld K ta f σ H Q := q
theorem w_fld {f : Str} {a C dx : Addr} {fs : List (Str × V)} (h : H a = some (.ins C dx fs)) (hc : Cls K C) (hn : NoAttr K C f) (hl : fs.lookup f = some v) (q : Q v H) : kFld K f Q (.ref a) H :=
  ⟨a, C, dx, fs, v, rfl, h, hc, hn, hl, q⟩
def kSF (K : PySem.W.Frag) (f : Str) (nx : St → Hp → Prop) (σ : St) (y x : V) (H : Hp) : Prop := ∃ a C dx fs, x = .ref a ∧ H a = some (.ins C dx fs) ∧ Cls K C ∧ NoAttr K C f ∧ fs.length < 1000 ∧ nx σ (upd H a (.ins C dx (putF f y fs)))
theorem w_sfld0 {f : Str} {tv : TE} (q : tv σ H fun y H1 => ta σ H1 fun x H2 => kSF K f nx σ y x H2) : sFld K ta tv f ⟨nx, rt, bk, ct⟩ σ H := q
theorem w_sfld {f : Str} {a C dx : Addr} {fs fs' : List (Str × V)} (h : H a = some (.ins C dx fs)) (hc : Cls K C) (hn : NoAttr K C f) (hl : fs.length < 1000) (he : putF f y fs = fs') (q : nx σ (upd H a (.ins C dx fs'))) : kSF K f nx σ y (.ref a) H :=
  ⟨a, C, dx, fs, rfl, h, hc, hn, hl, by rw [he]; exact q⟩
theorem w_meth0 {C : Addr} {m : Str} {sp : Sp} {dvs : List V} {E : XK} {t : TA} (q : ta σ H fun x H1 => ∃ a dx fs, x = .ref a ∧ H1 a = some (.ins C dx fs) ∧ fs.lookup m = none ∧ t σ H1 fun vs H2 => sp (x :: (vs ++ dvs)) H2 Q E) : tMeth C m sp dvs E ta t σ H Q := q
theorem w_meth {R : Prop} {m : Str} {a C dx : Addr} {fs : List (Str × V)} (h : H a = some (.ins C dx fs)) (hl : fs.lookup m = none) (q : R) : ∃ a' dx fs, V.ref a = .ref a' ∧ H a' = some (.ins C dx fs) ∧ fs.lookup m = none ∧ R := ⟨a, dx, fs, rfl, h, hl, q⟩
theorem w_prop0 {C : Addr} {sp : Sp} {dvs : List V} {E : XK} (q : ta σ H fun x H1 => ∃ a dx fs, x = .ref a ∧ H1 a = some (.ins C dx fs) ∧ sp (.ref a :: dvs) H1 Q E) : tProp C sp dvs E ta σ H Q := q
theorem w_prop {C a dx : Addr} {fs : List (Str × V)} {sp : Sp} {dvs : List V} {E : XK} (h : H a = some (.ins C dx fs)) (q : sp (.ref a :: dvs) H Q E) : ∃ a' dx fs, V.ref a = .ref a' ∧ H a' = some (.ins C dx fs) ∧ sp (.ref a' :: dvs) H Q E := ⟨a, dx, fs, rfl, h, q⟩
theorem w_make {C : Addr} {sp : Sp} {dvs : List V} {E : XK} {t : TA} (q : t σ H fun vs H1 => ∀ x dx, H1 x = none → H1 dx = none → dx ≠ x → sp (.ref x :: (vs ++ dvs)) (upd (upd H1 dx (.own x)) x (.ins C dx [])) (fun v H2 => v = .non ∧ Q (.ref x) H2) E) : tMake C sp dvs E t σ H Q := q
theorem w_makeK {C : Addr} {j l : Nat} {sp : Sp} {gV : List V → List V → List V} {E : XK} {t tk : TA} (q : t σ H fun vs H1 => tk σ H1 fun zs H2 => vs.length = j ∧ zs.length = l ∧ ∀ x dx, H2 x = none → H2 dx = none → dx ≠ x → sp (gV (.ref x :: vs) zs) (upd (upd H2 dx (.own x)) x (.ins C dx [])) (fun v H2 => v = .non ∧ Q (.ref x) H2) E) : tMakeK C j l sp gV E t tk σ H Q := q
theorem w_ixL {a : Addr} {xs : List V} {i : Int} (h : SqL K H a xs) (hi : atI xs i = some v) (q : Q v H) : rIxL K (.ref a) (.int i) H Q := ⟨a, xs, i, v, rfl, rfl, h, hi, q⟩
theorem w_ixT {a : Addr} {xs : List V} {i : Int} (h : SqT K H a xs) (hi : atI xs i = some v) (q : Q v H) : rIxT K (.ref a) (.int i) H Q := ⟨a, xs, i, v, rfl, rfl, h, hi, q⟩
theorem w_setL {a : Addr} {xs : List V} {i : Int} {j : Nat} {Q : Hp → Prop} (h : H a = some (.lst xs)) (hi : ixN xs.length i = some j) (q : Q (upd H a (.lst (xs.set j v)))) : rSetL (.ref a) (.int i) v H Q := ⟨a, xs, i, j, rfl, rfl, h, hi, q⟩
theorem w_gsub {to ti : TE} {ts : TSet} {Q : St → Hp → Prop} (q : to σ H fun o H1 => ti σ H1 fun i H2 => ts o i v H2 fun H3 => Q σ H3) : gSub to ti ts v σ H Q := q
theorem w_gname {i : Nat} {Q : St → Hp → Prop} (q : Q (σ.set i (some v)) H) : gName i v σ H Q := q
theorem w_gtup {n : Nat} {ts : TGs} {a : Addr} {xs : List V} {Q : St → Hp → Prop} (h : SqT K H a xs) (hn : xs.length = n) (q : ts xs σ H Q) : gTup K n ts (.ref a) σ H Q := ⟨a, xs, rfl, h, hn, q⟩
theorem w_gcons {tg : TG} {ts : TGs} {r : List V} {Q : St → Hp → Prop} (q : tg v σ H fun σ' H' => ts r σ' H' Q) : gCons tg ts (v :: r) σ H Q := ⟨v, r, rfl, q⟩
theorem w_gnil {Q : St → Hp → Prop} (q : Q σ H) : gNil [] σ H Q := ⟨rfl, q⟩
theorem w_seq (q : t ⟨u ⟨nx, rt, bk, ct⟩, rt, bk, ct⟩ σ H) : tSeq t u ⟨nx, rt, bk, ct⟩ σ H := q
theorem w_dec {c : Prop} [Decidable c] (h : c) (q : Q (.bl true) H) : Q (.bl (decide c)) H := by rw [decide_eq_true h]; exact q
theorem w_cut (M : St → Hp → Prop) (q : t ⟨M, rt, bk, ct⟩ σ H) (k : ∀ σ' H', M σ' H' → u ⟨nx, rt, bk, ct⟩ σ' H') : Evl.tCut t u ⟨nx, rt, bk, ct⟩ σ H := ⟨M, q, k⟩
theorem w_next (q : nx σ H) : tNext ⟨nx, rt, bk, ct⟩ σ H := q
theorem w_brk (q : bk σ H) : tBreak ⟨nx, rt, bk, ct⟩ σ H := q
theorem w_cont (q : ct σ H) : tCont ⟨nx, rt, bk, ct⟩ σ H := q
theorem w_drop (q : te σ H fun _ H1 => nx σ H1) : tDrop te ⟨nx, rt, bk, ct⟩ σ H := q
theorem w_ret (q : te σ H rt) : tRet te ⟨nx, rt, bk, ct⟩ σ H := q
theorem w_retN (q : rt .non H) : tRetN ⟨nx, rt, bk, ct⟩ σ H := q
theorem w_asg {g : TG} (q : te σ H fun x H1 => g x σ H1 nx) : tAsg te g ⟨nx, rt, bk, ct⟩ σ H := q
theorem w_ifs (q : c σ H fun b H1 => if b = true then t ⟨nx, rt, bk, ct⟩ σ H1 else u ⟨nx, rt, bk, ct⟩ σ H1) : tIfS c t u ⟨nx, rt, bk, ct⟩ σ H := q
theorem w_par {i j : Nat} {t : TA} (q : t σ H fun vs H1 => ∃ v w, vs = [v, w] ∧ nx ((σ.set i (some v)).set j (some w)) H1) : tPar i j t ⟨nx, rt, bk, ct⟩ σ H := q
theorem w_vw {v w : V} {R : V → V → Prop} (q : R v w) : ∃ v' w', [v, w] = [v', w'] ∧ R v' w' := ⟨v, w, rfl, q⟩
theorem w_if0 (q : c σ H fun b H1 => if b = true then ta σ H1 Q else tb σ H1 Q) : tIf c ta tb σ H Q := q
theorem w_test {Q : Bool → Hp → Prop} (q : te σ H fun x H' => ∃ k, x = .bl k ∧ Q k H') : tTest te σ H Q := q
theorem w_B {Q : Bool → Hp → Prop} (q : te σ H fun x H' => ∃ k, x = .bl k ∧ Q k H') : tB te σ H Q := q
theorem w_and {Q : Bool → Hp → Prop} (q : c σ H fun b H1 => if b = true then d σ H1 Q else Q false H1) : tAnd c d σ H Q := q
theorem w_or {Q : Bool → Hp → Prop} (q : c σ H fun b H1 => if b = true then Q true H1 else d σ H1 Q) : tOr c d σ H Q := q
theorem w_not {Q : Bool → Hp → Prop} (q : c σ H fun b H1 => Q (!b) H1) : tNot c σ H Q := q
theorem w_andV (q : ta σ H fun x H1 => ∃ k, x = .bl k ∧ if k = true then tb σ H1 Q else Q (.bl false) H1) : tAndV ta tb σ H Q := q
theorem w_orV (q : ta σ H fun x H1 => ∃ k, x = .bl k ∧ if k = true then Q (.bl true) H1 else tb σ H1 Q) : tOrV ta tb σ H Q := q
theorem w_notV (q : ta σ H fun x H1 => ∃ k, x = .bl k ∧ Q (.bl (!k)) H1) : tNotV ta σ H Q := q
theorem w_bl {b : Bool} {R : Bool → Prop} (q : R b) : ∃ k, V.bl b = .bl k ∧ R k := ⟨b, rfl, q⟩
theorem w_iI {i : Int} {R : Int → Prop} (q : R i) : ∃ k, [V.int i] = [.int k] ∧ R k := ⟨i, rfl, q⟩
theorem w_iIJ {i j : Int} {R : Int → Int → Prop} (q : R i j) : ∃ k l, [V.int i, V.int j] = [.int k, .int l] ∧ R k l := ⟨i, j, rfl, q⟩
theorem w_int1 {i : Int} {R : Int → Prop} {S : Bool → Prop} (q : R i) : (∃ k, [V.int i] = [.int k] ∧ R k) ∨ ∃ b, [V.int i] = [.bl b] ∧ S b := .inl ⟨i, rfl, q⟩
theorem w_lenL {a : Addr} {xs : List V} {R : List V → Prop} (h : SqL K H a xs) (q : R xs) : ∃ p ys, [V.ref a] = [.ref p] ∧ (SqL K H p ys ∨ SqT K H p ys) ∧ R ys := ⟨a, xs, rfl, .inl h, q⟩
theorem w_lenT {a : Addr} {xs : List V} {R : List V → Prop} (h : SqT K H a xs) (q : R xs) : ∃ p ys, [V.ref a] = [.ref p] ∧ (SqL K H p ys ∨ SqT K H p ys) ∧ R ys := ⟨a, xs, rfl, .inr h, q⟩
theorem ifT {c A B : Prop} [Decidable c] (h : c) (q : A) : if decide c = true then A else B := by rw [decide_eq_true h]; exact iteT q
theorem ifF {c A B : Prop} [Decidable c] (h : ¬ c) (q : B) : if decide c = true then A else B := by rw [decide_eq_false h]; exact iteF q
theorem ifT' {c A B : Prop} [Decidable c] (h : c) (q : B) : if (!decide c) = true then A else B := by rw [decide_eq_true h]; exact iteF q
theorem ifF' {c A B : Prop} [Decidable c] (h : ¬ c) (q : A) : if (!decide c) = true then A else B := by rw [decide_eq_false h]; exact iteT q
theorem ifS {c A B : Prop} [Decidable c] (h1 : c → A) (h2 : ¬ c → B) : if decide c = true then A else B := by
  by_cases h : c
  · exact ifT h (h1 h)
  · exact ifF h (h2 h)
theorem ifS' {c A B : Prop} [Decidable c] (h1 : c → B) (h2 : ¬ c → A) : if (!decide c) = true then A else B := by
  by_cases h : c
  · exact ifT' h (h1 h)
  · exact ifF' h (h2 h)
theorem ifB {b : Bool} {A B : Prop} (h1 : b = true → A) (h2 : b = false → B) : if b = true then A else B := by
  cases b with
  | true => exact iteT (h1 rfl)
  | false => exact iteF (h2 rfl)
theorem w_andP {b1 b2 : Bool} {Q : Bool → Hp → Prop} (hc : ∀ R : Bool → Hp → Prop, R b1 H → c σ H R) (hd : ∀ R : Bool → Hp → Prop, R b2 H → d σ H R) (q : Q (b1 && b2) H) : tAnd c d σ H Q := by
  refine hc _ ?_
  cases b1 with
  | true => exact iteT (hd _ q)
  | false => exact iteF q
theorem w_orP {b1 b2 : Bool} {Q : Bool → Hp → Prop} (hc : ∀ R : Bool → Hp → Prop, R b1 H → c σ H R) (hd : ∀ R : Bool → Hp → Prop, R b2 H → d σ H R) (q : Q (b1 || b2) H) : tOr c d σ H Q := by
  refine hc _ ?_
  cases b1 with
  | true => exact iteT q
  | false => exact iteF (hd _ q)
theorem dec_vint {i j : Int} : decide (V.int i = V.int j) = decide (i = j) := by
  by_cases h : i = j
  · subst h; simp
  · rw [decide_eq_false h, decide_eq_false (fun e => h (V.int.inj e))]
end
/-- only what stands at p may have changed -/
def Chg (p : Addr) (H H' : Hp) : Prop := ∀ b o, H b = some o → b ≠ p → H' b = some o
theorem Chg.refl {p : Addr} {H : Hp} : Chg p H H := fun _ _ h _ => h
theorem Chg.same {p : Addr} {H H' H1 : Hp} (a : Chg p H H') (b : Same H' H1) : Chg p H H1 := fun c o h n => b c o (a c o h n)
theorem Same.chg {p : Addr} {H H' : Hp} (a : Same H H') : Chg p H H' := fun b o h _ => a b o h
theorem Chg.trans {p : Addr} {H H' H1 : Hp} (a : Chg p H H') (b : Chg p H' H1) : Chg p H H1 := fun c o h n => b c o (a c o h n) n
theorem Chg.upd {p : Addr} {H H' : Hp} {o : HO} (a : Chg p H H') : Chg p H (upd H' p o) := fun c u h n => by rw [upd_ne n]; exact a c u h n
theorem same_upd {H H' : Hp} {p : Addr} {o : HO} (a : Same H H') (h : H' p = none) : Same H (upd H' p o) := a.trans (same_new h)
theorem same_updF {H H' : Hp} {p : Addr} {o : HO} (a : Same H H') (h : H p = none) : Same H (upd H' p o) := fun b u e => by
  rw [upd_ne (ne_of_none e h)]
  exact a b u e
theorem atI_ints {ns : List Int} {k : Int} (h0 : 0 ≤ k) (h : k < (ns.map V.int).length) : ∃ n, n ∈ ns ∧ atI (ns.map V.int) k = some (.int n) ∧ ns[k.toNat]? = some n := by
  rw [List.length_map] at h
  have hj : k.toNat < ns.length := by omega
  refine ⟨ns[k.toNat], List.getElem_mem hj, ?_, List.getElem?_eq_getElem hj⟩
  have e : ((k.toNat : Nat) : Int) = k := by omega
  have q : atI (ns.map V.int) ((k.toNat : Nat) : Int) = some (V.int ns[k.toNat]) := atI_nat (by rw [List.getElem?_map]; simp [hj])
  rw [e] at q
  exact q
theorem atI_mem {xs : List V} {k : Int} (h0 : 0 ≤ k) (h : k < xs.length) : ∃ v, v ∈ xs ∧ atI xs k = some v ∧ xs[k.toNat]? = some v := by
  have hj : k.toNat < xs.length := by omega
  refine ⟨xs[k.toNat], List.getElem_mem hj, ?_, List.getElem?_eq_getElem hj⟩
  have e : ((k.toNat : Nat) : Int) = k := by omega
  have q : atI xs ((k.toNat : Nat) : Int) = some xs[k.toNat] := atI_nat (by simp [hj])
  rw [e] at q
  exact q
/-! ### rules with the written part by its name (within a comprehension) -/
section
variable {X : Cx} {K : PySem.W.Frag}
theorem ixLK (h : X.K = K := by rfl) : IxR X (rIxL K) := h ▸ ix_list
theorem ixTK (h : X.K = K := by rfl) : IxR X (rIxT K) := h ▸ ix_tup
theorem inK (h : X.K = K := by rfl) : OpR X (compareOp .In) (rIn K false) := h ▸ op_in_seq
theorem notInK (h : X.K = K := by rfl) : OpR X (compareOp .NotIn) (rIn K true) := h ▸ op_notIn_seq
theorem slLK (h : X.K = K := by rfl) : SlR X (rSlL K) := h ▸ sl_list
theorem slTK (h : X.K = K := by rfl) : SlR X (rSlT K) := h ▸ sl_tup
theorem eqDK (hu : X.A.units + 64 < cLine) (h : X.K = K := by rfl) : OpR X (compareOp .Eq) (rEqD K) := h ▸ op_eqD hu
theorem neDK (hu : X.A.units + 64 < cLine) (h : X.K = K := by rfl) : OpR X (compareOp .NotEq) (rNeD K) := h ▸ op_neD hu
theorem fldK {e : Expr} {f : Str} {ta : TE} {pos : Pos} (he : PE X e ta) (hb : attributeBase e f X.env (eval e X.env) = eval e X.env) (h : X.K = K := by rfl) : PE X (.Attribute e f pos) (tFld K ta f) := h ▸ pe_fld he hb
theorem lenK (h : X.K = K := by rfl) : CallR X (.builtin "len") (fun xs H Q => ∃ p ys, xs = [.ref p] ∧ (SqL K H p ys ∨ SqT K H p ys) ∧ Q (.int ys.length) H) := h ▸ call_len_seq
theorem isiK (h : X.K = K := by rfl) : CallR X (.builtin "isinstance") (rIsi K) := h ▸ call_isi
end
/-! ### methods called in a try, by keywords -/
section
open PySem.Spec PyProof.Rows
variable {X : Cx} {CX : CXT} {k : Nat} {f C : Addr} {fd : FuncData} {ps ks : List Str} {sp : Sp} {m x : Str} {p pos apos : Pos} {e o : Expr} {es : List Expr} {kws : List Keyword} {ta : TE} {t tk : TA} {g : List Value → List Value → List Value} {gV : List V → List V → List V} {n : Nat}
def tMethSx (C : Addr) (m : Str) (sp : Sp) (E : L2.St → XK) (ta : TE) (t : TA) : TE := fun σ H Q => ta σ H fun x H1 => ∃ a dx fs, x = .ref a ∧ H1 a = some (.ins C dx fs) ∧ fs.lookup m = none ∧
  t σ H1 fun vs H2 => sp (x :: vs) H2 Q (E σ)
theorem pe_methSx {E : L2.St → XK} {pl : Sem Bool} (he : PE X o ta) (c : Cls X.K C) (hm : Meth X.K C m f) (F : FnOk X.prog X.w X.K X.mg X.base CX k f fd ps sp) (hr : Room k X.A) (hb : Binds X.K fd ps []) (hx : ∀ σ, PassesAt CX X σ (E σ)) (ha : PA X (e :: es) t)
    (hst : starEach (e :: es) X.env = (false, eval e X.env) :: starEach es X.env := by rfl) (hpl : (backTo pos (starEach es X.env)).any (·.1) = false := by rfl)
    (ht : eval (.Call (.Attribute o m apos) (e :: es) [] pos) X.env = (do
      let ov ← eval o X.env
      standAt apos.atName
      let (f, first) ← holding [ov] (getMethod ov m pl)
      callWith pos f first (backTo pos (starEach (e :: es) X.env)) (backToKw pos (keywordEach [] X.env))) := by rfl) :
    PE X (.Call (.Attribute o m apos) (e :: es) [] pos) (tMethSx C m sp E ta t) := by
  refine ⟨fun pins s σ H Q I h => ?_⟩
  refine PySem.W.methodCall_KW (pl := pl) (thn (he.run pins s σ H _ I h) fun u s1 ⟨x, H1, I1, rx, a, dx, fs, ex, ea, l, q⟩ => ?_) ht
  subst ex
  obtain rfl : u = Value.ref a := rx
  refine getmeth_ok I1 ea c hm l ?_
  refine PySem.W.callWith_K (first := [.ref a]) (h₀ := X.base) I.ok.mod.kin hm.kp (thn (ha.run pos pins s1 σ H1 _ I1 q) fun us s2 ⟨vs, H2, I2, r, q2⟩ => ⟨I2.kIn, ?_⟩) hst hpl
  exact run_fnS (us := .ref a :: us) (vs := .ref a :: vs) F hr hb (hx σ) I2 (.cons rfl r) q2
def tMethN (C : Addr) (m : Str) (j l : Nat) (sp : Sp) (gV : List V → List V → List V) (E : XK) (ta : TE) (t tk : TA) : TE := fun σ H Q => ta σ H fun x H1 => ∃ a dx fs, x = .ref a ∧ H1 a = some (.ins C dx fs) ∧ fs.lookup m = none ∧
  t σ H1 fun vs H2 => tk σ H2 fun zs H3 => vs.length = j ∧ zs.length = l ∧ sp (gV (x :: vs) zs) H3 Q E
theorem pe_methN0 {E : XK} {pl : Sem Bool} (he : PE X o ta) (c : Cls X.K C) (hm : Meth X.K C m f) (F : FnOk X.prog X.w X.K X.mg X.base CX k f fd ps sp) (hr : Room k X.A) (hb : KBn X.K fd ps 1 ks g gV) (hx : Passes CX X E) (hkw : PK X kws tk)
    (hall : (backToKw pos (keywordEach kws X.env)).all (·.1.isSome) = true := by rfl) (hks : (backToKw pos (keywordEach kws X.env)).filterMap (·.1) = ks := by rfl)
    (hpl : ((backTo pos (starEach [] X.env)).any (·.1) || (backToKw pos (keywordEach kws X.env)).any (·.1.isNone)) = false := by rfl)
    (ht : eval (.Call (.Attribute o m apos) [] kws pos) X.env = (do
      let ov ← eval o X.env
      standAt apos.atName
      let (f, first) ← holding [ov] (getMethod ov m pl)
      callWith pos f first (backTo pos (starEach [] X.env)) (backToKw pos (keywordEach kws X.env))) := by rfl) :
    PE X (.Call (.Attribute o m apos) [] kws pos) (tMethN C m 0 ks.length sp gV E ta tNil tk) := by
  refine ⟨fun pins s σ H Q I h => ?_⟩
  refine PySem.W.methodCall_KW (pl := pl) (thn (he.run pins s σ H _ I h) fun u s1 ⟨x, H1, I1, rx, a, dx, fs, ex, ea, l, q⟩ => ?_) ht
  subst ex
  obtain rfl : u = Value.ref a := rx
  refine getmeth_ok I1 ea c hm l ?_
  refine PySem.W.callWith_KW0 (first := [.ref a]) (h₀ := X.base) I.ok.mod.kin hm.kp hall ?_ hpl
  refine thn (hkw.run pos pins s1 σ H1 _ I1 q) fun ws s2 ⟨zs, H2, I2, rz, l1, l2, q2⟩ => ⟨I2.kIn, ?_⟩
  rw [hks]
  exact run_fnN (us := [.ref a]) (vs := [.ref a]) F hr hb hx I2 (.cons rfl .nil) rz rfl l2 q2
theorem pe_methN {E : XK} {pl : Sem Bool} (he : PE X o ta) (c : Cls X.K C) (hm : Meth X.K C m f) (F : FnOk X.prog X.w X.K X.mg X.base CX k f fd ps sp) (hr : Room k X.A) (hb : KBn X.K fd ps (n + 1) ks g gV) (hx : Passes CX X E) (ha : PA X (e :: es) t) (hkw : PK X kws tk)
    (hall : (backToKw pos (keywordEach kws X.env)).all (·.1.isSome) = true := by rfl) (hks : (backToKw pos (keywordEach kws X.env)).filterMap (·.1) = ks := by rfl)
    (hst : starEach (e :: es) X.env = (false, eval e X.env) :: starEach es X.env := by rfl)
    (hpl : ((backTo pos (starEach (e :: es) X.env)).any (·.1) || (backToKw pos (keywordEach kws X.env)).any (·.1.isNone)) = false := by rfl)
    (ht : eval (.Call (.Attribute o m apos) (e :: es) kws pos) X.env = (do
      let ov ← eval o X.env
      standAt apos.atName
      let (f, first) ← holding [ov] (getMethod ov m pl)
      callWith pos f first (backTo pos (starEach (e :: es) X.env)) (backToKw pos (keywordEach kws X.env))) := by rfl) :
    PE X (.Call (.Attribute o m apos) (e :: es) kws pos) (tMethN C m n ks.length sp gV E ta t tk) := by
  refine ⟨fun pins s σ H Q I h => ?_⟩
  refine PySem.W.methodCall_KW (pl := pl) (thn (he.run pins s σ H _ I h) fun u s1 ⟨x, H1, I1, rx, a, dx, fs, ex, ea, l, q⟩ => ?_) ht
  subst ex
  obtain rfl : u = Value.ref a := rx
  refine getmeth_ok I1 ea c hm l ?_
  refine PySem.W.callWith_KW (first := [.ref a]) (h₀ := X.base) I.ok.mod.kin hm.kp hall (thn (ha.run pos pins s1 σ H1 _ I1 q) fun us s2 ⟨vs, H2, I2, r, q2⟩ => ?_) hpl hst
  refine thn (hkw.run pos pins s2 σ H2 _ I2 q2) fun ws s3 ⟨zs, H3, I3, rz, l1, l2, q3⟩ => ⟨I3.kIn, ?_⟩
  rw [hks]
  exact run_fnN (us := .ref a :: us) (vs := .ref a :: vs) F hr hb hx I3 (.cons rfl r) rz (by rw [List.length_cons, l1]) l2 q3
/-- f(k = v, ..) -/
theorem pe_callN0 {E : XK} (F : FnOk X.prog X.w X.K X.mg X.base CX k f fd ps sp) (hr : Room k X.A) (hg : Gl X x) (hm : X.mg x = some (.ref f)) (hk : PySem.W.keepIn X.K (.ref f) = true) (hb : KBn X.K fd ps 0 ks g gV) (hx : Passes CX X E) (hkw : PK X kws tk)
    (hall : (backToKw pos (keywordEach kws X.env)).all (·.1.isSome) = true := by rfl) (hks : (backToKw pos (keywordEach kws X.env)).filterMap (·.1) = ks := by rfl)
    (hdb : (x == ("__debug__" : Str)) = false := by decide)
    (hpl : ((backTo pos (starEach [] X.env)).any (·.1) || (backToKw pos (keywordEach kws X.env)).any (·.1.isNone)) = false := by rfl) :
    PE X (.Call (.Name x p) [] kws pos) (tCallN 0 ks.length sp gV E tNil tk) := by
  refine ⟨fun pins s σ H Q I h => ?_⟩
  refine wpAny_Call_Name_kw (ld_glob I hg hm ?_ hdb)
  refine PySem.W.callWith_KW0 (h₀ := X.base) I.ok.mod.kin hk hall ?_ hpl
  refine thn (hkw.run pos pins s σ H _ I h) fun ws s2 ⟨zs, H2, I2, rz, l1, l2, q2⟩ => ⟨I2.kIn, ?_⟩
  rw [hks]
  exact run_fnN (us := []) (vs := []) F hr hb hx I2 .nil rz rfl l2 q2
end
section
variable {K : PySem.W.Frag} {σ : St} {H : Hp} {Q : VK} {ta : TE} {t tk : TA} {v : V}
theorem w_methSx0 {C : Addr} {m : Str} {sp : Sp} {E : St → XK} (q : ta σ H fun x H1 => ∃ a dx fs, x = .ref a ∧ H1 a = some (.ins C dx fs) ∧ fs.lookup m = none ∧ t σ H1 fun vs H2 => sp (x :: vs) H2 Q (E σ)) : tMethSx C m sp E ta t σ H Q := q
theorem w_methN0 {C : Addr} {m : Str} {j l : Nat} {sp : Sp} {gV : List V → List V → List V} {E : XK} (q : ta σ H fun x H1 => ∃ a dx fs, x = .ref a ∧ H1 a = some (.ins C dx fs) ∧ fs.lookup m = none ∧ t σ H1 fun vs H2 => tk σ H2 fun zs H3 => vs.length = j ∧ zs.length = l ∧ sp (gV (x :: vs) zs) H3 Q E) : tMethN C m j l sp gV E ta t tk σ H Q := q
theorem w_callN {j l : Nat} {sp : Sp} {gV : List V → List V → List V} {E : XK} (q : t σ H fun vs H1 => tk σ H1 fun zs H2 => vs.length = j ∧ zs.length = l ∧ sp (gV vs zs) H2 Q E) : tCallN j l sp gV E t tk σ H Q := q
theorem w_callS {sp : Sp} {E : St → XK} (q : t σ H fun vs H1 => sp vs H1 Q (E σ)) : tCallS sp E t σ H Q := q
theorem w_rfl {α : Type} {x : α} {R : Prop} (q : R) : x = x ∧ R := ⟨rfl, q⟩
theorem w_ea {σ2 : L2.St} {vs : List Nat} {R : Prop} (h : wipe σ2 vs = wipe σ vs) (q : R) : wipe σ2 vs = wipe σ vs ∧ R := ⟨h, q⟩
theorem w_ln {α : Type} {xs : List α} {n : Nat} {R : Prop} (h : xs.length = n) (q : R) : xs.length = n ∧ R := ⟨h, q⟩
theorem w_yes {Q : Bool → Hp → Prop} (q : Q true H) : tYes σ H Q := q
end
theorem iteNT {A B : Prop} (h : B) : if (!true) = true then A else B := h
theorem iteNF {A B : Prop} (h : A) : if (!false) = true then A else B := h
/-! ### comprehensions without tests: each item gives a known value -/
section
variable {K : PySem.W.Frag} {σ : L2.St} {H : Hp} {Q : VK} {g : TG} {te tl : TE} {l : Addr} {xs ys : List V} {vs : List Nat}
theorem w_lc0L (q : tl σ H fun x H1 => ∃ a, x = .ref a ∧ (∃ xs, SqL K H1 a xs) ∧ ∀ D, H1 D = none → ∃ W : Nat → Nat → Hp → Prop, (∃ m, W 0 m (upd H1 D (.lst []))) ∧ ∀ i m H, W i m H →
      ((Itl K a).stop i H ∧ Q (.ref D) H) ∨ ((Itl K a).go i H ∧ ∃ Nx : Hp → Prop, (∀ H', Nx H' → ∃ m', m' < m ∧ W (i + 1) m' H') ∧ ∀ x H', (Itl K a).yld i H x H' → g x (wipe σ vs) H' fun σ2 H2 => wipe σ2 vs = wipe σ vs ∧ tYes σ2 H2 fun b H3 =>
        if b = true then te σ2 H3 fun y H4 => ∃ acc, H4 D = some (.lst acc) ∧ acc.length < sizeLine ∧ Nx (upd H4 D (.lst (acc ++ [y]))) else Nx H3)) : tLc (iList K tl) g tYes te vs σ H Q := q
theorem w_lc0T (q : tl σ H fun x H1 => ∃ a, x = .ref a ∧ (∃ xs, SqT K H1 a xs) ∧ ∀ D, H1 D = none → ∃ W : Nat → Nat → Hp → Prop, (∃ m, W 0 m (upd H1 D (.lst []))) ∧ ∀ i m H, W i m H →
      ((Itt K a).stop i H ∧ Q (.ref D) H) ∨ ((Itt K a).go i H ∧ ∃ Nx : Hp → Prop, (∀ H', Nx H' → ∃ m', m' < m ∧ W (i + 1) m' H') ∧ ∀ x H', (Itt K a).yld i H x H' → g x (wipe σ vs) H' fun σ2 H2 => wipe σ2 vs = wipe σ vs ∧ tYes σ2 H2 fun b H3 =>
        if b = true then te σ2 H3 fun y H4 => ∃ acc, H4 D = some (.lst acc) ∧ acc.length < sizeLine ∧ Nx (upd H4 D (.lst (acc ++ [y]))) else Nx H3)) : tLc (iTup K tl) g tYes te vs σ H Q := q
theorem lc_inv {f : Nat → V} {D : Addr} {H' : Hp} {i : Nat} (nD : H D = none) (s : Same H H') (hD : H' D = some (.lst ((List.range i).map f))) (v : V) (hv : v = f i) :
    Same H (upd H' D (.lst (((List.range i).map f) ++ [v]))) ∧ (upd H' D (.lst (((List.range i).map f) ++ [v]))) D = some (.lst ((List.range (i + 1)).map f)) := by
  refine ⟨same_updF s nD, ?_⟩
  rw [upd_same, List.range_succ, List.map_append, hv]
  rfl
/-- the i-th item gives f i; nothing that stood is changed -/
theorem w_lcL (f : Nat → V) (h : SqL K H l xs) (hz : xs.length ≤ 100000)
    (step : ∀ (i : Nat) (x : V) (H' : Hp) (R : VK) (S : Hp → Prop), xs[i]? = some x → Same H H' → (∀ H4, Same H' H4 → R (f i) H4) → g x (wipe σ vs) H' fun σ2 H2 => wipe σ2 vs = wipe σ vs ∧ tYes σ2 H2 fun b H3 => if b = true then te σ2 H3 R else S H3)
    (q : ∀ D H', Same H H' → H D = none → H' D = some (.lst ((List.range xs.length).map f)) → Q (.ref D) H') : ∃ a, V.ref l = .ref a ∧ (∃ xs, SqL K H a xs) ∧ ∀ D, H D = none → ∃ W : Nat → Nat → Hp → Prop, (∃ m, W 0 m (upd H D (.lst []))) ∧ ∀ i m H, W i m H →
      ((Itl K a).stop i H ∧ Q (.ref D) H) ∨ ((Itl K a).go i H ∧ ∃ Nx : Hp → Prop, (∀ H', Nx H' → ∃ m', m' < m ∧ W (i + 1) m' H') ∧ ∀ x H', (Itl K a).yld i H x H' → g x (wipe σ vs) H' fun σ2 H2 => wipe σ2 vs = wipe σ vs ∧ tYes σ2 H2 fun b H3 =>
        if b = true then te σ2 H3 fun y H4 => ∃ acc, H4 D = some (.lst acc) ∧ acc.length < sizeLine ∧ Nx (upd H4 D (.lst (acc ++ [y]))) else Nx H3) := by
  refine ⟨l, rfl, ⟨xs, h⟩, fun D nD => ?_⟩
  refine lc_list (K := K) (a := l) (xs := xs) (fun i H' => i ≤ xs.length ∧ Same H H' ∧ H' D = some (.lst ((List.range i).map f))) ⟨Nat.zero_le _, same_new nD, upd_same⟩ (fun i H' _ p => p.2.1.seq h) (fun i x H' hx p => ?_) (fun H' p => q D H' p.2.1 nD p.2.2)
  have hi : i < xs.length := (List.getElem?_eq_some_iff.mp hx).1
  refine step i x H' _ _ hx p.2.1 fun H4 s4 => ?_
  have hD4 := s4 _ _ p.2.2
  refine ⟨_, hD4, ?_, hi, lc_inv nD (p.2.1.trans s4) hD4 _ rfl⟩
  rw [List.length_map, List.length_range]
  exact Nat.lt_of_lt_of_le (Nat.lt_of_lt_of_le hi hz) (by decide)
theorem w_lcT (f : Nat → V) (h : SqT K H l xs) (hz : xs.length ≤ 100000) (hs : ∀ H', Same H H' → SqT K H' l xs)
    (step : ∀ (i : Nat) (x : V) (H' : Hp) (R : VK) (S : Hp → Prop), xs[i]? = some x → Same H H' → (∀ H4, Same H' H4 → R (f i) H4) → g x (wipe σ vs) H' fun σ2 H2 => wipe σ2 vs = wipe σ vs ∧ tYes σ2 H2 fun b H3 => if b = true then te σ2 H3 R else S H3)
    (q : ∀ D H', Same H H' → H D = none → H' D = some (.lst ((List.range xs.length).map f)) → Q (.ref D) H') : ∃ a, V.ref l = .ref a ∧ (∃ xs, SqT K H a xs) ∧ ∀ D, H D = none → ∃ W : Nat → Nat → Hp → Prop, (∃ m, W 0 m (upd H D (.lst []))) ∧ ∀ i m H, W i m H →
      ((Itt K a).stop i H ∧ Q (.ref D) H) ∨ ((Itt K a).go i H ∧ ∃ Nx : Hp → Prop, (∀ H', Nx H' → ∃ m', m' < m ∧ W (i + 1) m' H') ∧ ∀ x H', (Itt K a).yld i H x H' → g x (wipe σ vs) H' fun σ2 H2 => wipe σ2 vs = wipe σ vs ∧ tYes σ2 H2 fun b H3 =>
        if b = true then te σ2 H3 fun y H4 => ∃ acc, H4 D = some (.lst acc) ∧ acc.length < sizeLine ∧ Nx (upd H4 D (.lst (acc ++ [y]))) else Nx H3) := by
  refine ⟨l, rfl, ⟨xs, h⟩, fun D nD => ?_⟩
  refine lc_tup (K := K) (a := l) (xs := xs) (fun i H' => i ≤ xs.length ∧ Same H H' ∧ H' D = some (.lst ((List.range i).map f))) ⟨Nat.zero_le _, same_new nD, upd_same⟩ (fun i H' _ p => hs _ p.2.1) (fun i x H' hx p => ?_) (fun H' p => q D H' p.2.1 nD p.2.2)
  have hi : i < xs.length := (List.getElem?_eq_some_iff.mp hx).1
  refine step i x H' _ _ hx p.2.1 fun H4 s4 => ?_
  have hD4 := s4 _ _ p.2.2
  refine ⟨_, hD4, ?_, hi, lc_inv nD (p.2.1.trans s4) hD4 _ rfl⟩
  rw [List.length_map, List.length_range]
  exact Nat.lt_of_lt_of_le (Nat.lt_of_lt_of_le hi hz) (by decide)
theorem lc_L (f : Nat → V) (htl : ∀ R : VK, R (.ref l) H → tl σ H R) (h : SqL K H l xs) (hz : xs.length ≤ 100000)
    (step : ∀ (i : Nat) (x : V) (H' : Hp) (R : VK) (S : Hp → Prop), xs[i]? = some x → Same H H' → (∀ H4, Same H' H4 → R (f i) H4) → g x (wipe σ vs) H' fun σ2 H2 => wipe σ2 vs = wipe σ vs ∧ tYes σ2 H2 fun b H3 => if b = true then te σ2 H3 R else S H3)
    (q : ∀ D H', Same H H' → H D = none → H' D = some (.lst ((List.range xs.length).map f)) → Q (.ref D) H') : tLc (iList K tl) g tYes te vs σ H Q := w_lc0L (htl _ (w_lcL f h hz step q))
theorem lc_T (f : Nat → V) (htl : ∀ R : VK, R (.ref l) H → tl σ H R) (h : SqT K H l xs) (hz : xs.length ≤ 100000) (hs : ∀ H', Same H H' → SqT K H' l xs)
    (step : ∀ (i : Nat) (x : V) (H' : Hp) (R : VK) (S : Hp → Prop), xs[i]? = some x → Same H H' → (∀ H4, Same H' H4 → R (f i) H4) → g x (wipe σ vs) H' fun σ2 H2 => wipe σ2 vs = wipe σ vs ∧ tYes σ2 H2 fun b H3 => if b = true then te σ2 H3 R else S H3)
    (q : ∀ D H', Same H H' → H D = none → H' D = some (.lst ((List.range xs.length).map f)) → Q (.ref D) H') : tLc (iTup K tl) g tYes te vs σ H Q := w_lc0T (htl _ (w_lcT f h hz hs step q))
theorem same_seqT {H H' : Hp} {a : Addr} {xs : List V} (e : Same H H') (h : SqT K H a xs) : SqT K H' a xs := by
  rcases h with (h | ⟨o, h⟩) | h
  · exact .inl (.inl (e _ _ h))
  · exact .inl (.inr ⟨o, e _ _ h⟩)
  · exact .inr h
end
theorem w_allTrue {K : PySem.W.Frag} {H : Hp} {Q : VK} {D : Addr} {n : Nat} (h : H D = some (.lst ((List.range n).map fun _ => V.bl true))) (q : Q (.bl true) H) : rAll K [.ref D] H Q := by
  refine ⟨D, (List.range n).map fun _ => true, rfl, SqL.of (by rw [List.map_map]; exact h), ?_⟩
  have e : ((List.range n).map fun _ => true).all id = true := by simp
  rw [e]
  exact q
/-! ### refusals -/
def spCore (K : PySem.W.Frag) : Sp := fun vs H Q _ => ∃ (x C : Addr) (v : V), vs = [.ref x, v] ∧ OexC K C ∧ PySem.W.findIn K (.ref C) "value" = some none ∧ H x = some (exo x C none) ∧
  ∀ dx, H dx = none → dx ≠ x → Q .non (upd (upd H dx (exd dx [("value", v)])) x (exo x C (some dx)))
theorem w_mko0 {C : Addr} {sp : Sp} {dvs : List V} {ta : TA} {σ : St} {H : Hp} {Q : XK} (q : ta σ H fun vs H1 => vs.length ≤ 1000 ∧ ∀ a, H1 a = none → sp (.ref a :: (vs ++ dvs)) (upd H1 a (exo a C none))
  (fun v H2 => v = .non ∧ ∃ (d : Addr) (fs : List (Str × V)), H2 a = some (exo a C (some d)) ∧ H2 d = some (exd d fs) ∧ H1 d = none ∧ Q (.ref C) (some d) (upd (del H2 a) d (.xd fs))) (fun _ _ _ => False)) : tMkO C sp dvs ta σ H Q := q
theorem w_core {K : PySem.W.Frag} {C : Addr} {v : V} {H : Hp} {Q : XK} (hC : OexC K C) (hn : PySem.W.findIn K (.ref C) "value" = some none)
    (q : ∀ d H', Same H H' → H d = none → H' d = some (.xd [("value", v)]) → Q (.ref C) (some d) H') :
    [v].length ≤ 1000 ∧ ∀ a, H a = none → spCore K (.ref a :: ([v] ++ [])) (upd H a (exo a C none))
      (fun v H2 => v = .non ∧ ∃ (d : Addr) (fs : List (Str × V)), H2 a = some (exo a C (some d)) ∧ H2 d = some (exd d fs) ∧ H d = none ∧ Q (.ref C) (some d) (upd (del H2 a) d (.xd fs))) (fun _ _ _ => False) := by
  refine ⟨by show 1 ≤ 1000; decide, fun x nx => ⟨x, C, v, rfl, hC, hn, upd_same, fun dx ndx hne => ⟨rfl, dx, _, upd_same, (upd_ne hne).trans upd_same, ?_, q dx _ ?_ ?_ upd_same⟩⟩⟩
  · rw [upd_ne hne] at ndx
    exact ndx
  · intro b o e
    have hb : b ≠ x := ne_of_none e nx
    have hd : b ≠ dx := by
      intro z
      rw [z] at e
      rw [upd_ne hne, e] at ndx
      cases ndx
    rw [upd_ne hd, del_ne hb, upd_ne hb, upd_ne hd, upd_ne hb]
    exact e
  · rw [upd_ne hne] at ndx
    exact ndx
theorem map_get {ns : List Int} {i : Nat} {x : V} (h : (ns.map V.int)[i]? = some x) : ∃ n, n ∈ ns ∧ x = .int n := by
  rw [List.getElem?_map] at h
  cases e : ns[i]? with
  | none => rw [e] at h; cases h
  | some n =>
    rw [e] at h
    exact ⟨n, List.mem_of_getElem? e, (Option.some.inj h).symm⟩
/-! ### loops -/
section
variable {K : PySem.W.Frag} {σ : L2.St} {H : Hp} {g : TG} {tb : TS} {nx bk ct : L2.St → Hp → Prop} {rt : VK} {ta : TA} {tl : TE}
def kR1 (g : TG) (tb : TS) (D : Ends) (σ : L2.St) (vs : List V) (H : Hp) : Prop := ∃ j : Int, vs = [.int j] ∧ -(2 ^ 62) ≤ j ∧ j < 2 ^ 62 ∧ ∃ W : Nat → Nat → L2.St → Hp → Prop, (∃ m, W 0 m σ H) ∧ ∀ i m σ H, W i m σ H →
  ((Itr 0 j.toNat).stop i H ∧ D.nx σ H) ∨ ((Itr 0 j.toNat).go i H ∧ ∃ N : L2.St → Hp → Prop, (∀ σ' H', N σ' H' → ∃ m', m' < m ∧ W (i + 1) m' σ' H') ∧ ∀ x H', (Itr 0 j.toNat).yld i H x H' → g x σ H' fun σ2 H2 => tb { D with nx := N, ct := N, bk := D.nx } σ2 H2)
theorem w_forR1 (q : ta σ H fun vs H1 => kR1 g tb ⟨nx, rt, bk, ct⟩ σ vs H1) : tFor (iRng1 ta) g tb ⟨nx, rt, bk, ct⟩ σ H := q
theorem w_range1 {j : Int} (Pv : Nat → L2.St → Hp → Prop) (hj : -100000000 ≤ j ∧ j < 100000000) (h0 : Pv 0 σ H)
    (hs : ∀ (i : Nat) σ' H', (i : Int) < j → Pv i σ' H' → g (.int i) σ' H' fun σ2 H2 => tb ⟨Pv (i + 1), rt, nx, Pv (i + 1)⟩ σ2 H2) (hd : ∀ σ' H', Pv j.toNat σ' H' → nx σ' H') : kR1 g tb ⟨nx, rt, bk, ct⟩ σ [.int j] H := by
  refine ⟨j, rfl, by omega, by omega, for_range (lo := 0) (n := j.toNat) (D := ⟨nx, rt, bk, ct⟩) Pv h0 (fun i σ' H' hi p => ?_) hd⟩
  have e : (0 : Int) + (i : Int) = i := by omega
  rw [e]
  exact hs i σ' H' (by omega) p
def kFL (K : PySem.W.Frag) (g : TG) (tb : TS) (D : Ends) (σ : L2.St) (x : V) (H : Hp) : Prop := ∃ a, x = .ref a ∧ (∃ xs, SqL K H a xs) ∧ ∃ W : Nat → Nat → L2.St → Hp → Prop, (∃ m, W 0 m σ H) ∧ ∀ i m σ H, W i m σ H →
  ((Itl K a).stop i H ∧ D.nx σ H) ∨ ((Itl K a).go i H ∧ ∃ N : L2.St → Hp → Prop, (∀ σ' H', N σ' H' → ∃ m', m' < m ∧ W (i + 1) m' σ' H') ∧ ∀ x H', (Itl K a).yld i H x H' → g x σ H' fun σ2 H2 => tb { D with nx := N, ct := N, bk := D.nx } σ2 H2)
theorem w_forL (q : tl σ H fun x H1 => kFL K g tb ⟨nx, rt, bk, ct⟩ σ x H1) : tFor (iList K tl) g tb ⟨nx, rt, bk, ct⟩ σ H := q
theorem w_list {a : Addr} {xs : List V} (Pv : Nat → L2.St → Hp → Prop) (h : SqL K H a xs) (h0 : Pv 0 σ H) (hl : ∀ i σ' H', i ≤ xs.length → Pv i σ' H' → SqL K H' a xs)
    (hs : ∀ (i : Nat) x σ' H', xs[i]? = some x → Pv i σ' H' → g x σ' H' fun σ2 H2 => tb ⟨Pv (i + 1), rt, nx, Pv (i + 1)⟩ σ2 H2) (hd : ∀ σ' H', Pv xs.length σ' H' → nx σ' H') : kFL K g tb ⟨nx, rt, bk, ct⟩ σ (.ref a) H :=
  ⟨a, rfl, ⟨xs, h⟩, for_list (D := ⟨nx, rt, bk, ct⟩) Pv h0 hl hs hd⟩
def kFT (K : PySem.W.Frag) (g : TG) (tb : TS) (D : Ends) (σ : L2.St) (x : V) (H : Hp) : Prop := ∃ a, x = .ref a ∧ (∃ xs, SqT K H a xs) ∧ ∃ W : Nat → Nat → L2.St → Hp → Prop, (∃ m, W 0 m σ H) ∧ ∀ i m σ H, W i m σ H →
  ((Itt K a).stop i H ∧ D.nx σ H) ∨ ((Itt K a).go i H ∧ ∃ N : L2.St → Hp → Prop, (∀ σ' H', N σ' H' → ∃ m', m' < m ∧ W (i + 1) m' σ' H') ∧ ∀ x H', (Itt K a).yld i H x H' → g x σ H' fun σ2 H2 => tb { D with nx := N, ct := N, bk := D.nx } σ2 H2)
theorem w_forT (q : tl σ H fun x H1 => kFT K g tb ⟨nx, rt, bk, ct⟩ σ x H1) : tFor (iTup K tl) g tb ⟨nx, rt, bk, ct⟩ σ H := q
theorem w_tupl {a : Addr} {xs : List V} (Pv : Nat → L2.St → Hp → Prop) (h : SqT K H a xs) (h0 : Pv 0 σ H) (hl : ∀ i σ' H', i ≤ xs.length → Pv i σ' H' → SqT K H' a xs)
    (hs : ∀ (i : Nat) x σ' H', xs[i]? = some x → Pv i σ' H' → g x σ' H' fun σ2 H2 => tb ⟨Pv (i + 1), rt, nx, Pv (i + 1)⟩ σ2 H2) (hd : ∀ σ' H', Pv xs.length σ' H' → nx σ' H') : kFT K g tb ⟨nx, rt, bk, ct⟩ σ (.ref a) H :=
  ⟨a, rfl, ⟨xs, h⟩, for_tup (D := ⟨nx, rt, bk, ct⟩) Pv h0 hl hs hd⟩
/-- a comprehension by an invariant over its turns -/
theorem lcI_L {Q : VK} {te : TE} {l : Addr} {xs : List V} {vs : List Nat} (Pv : Addr → Nat → Hp → Prop) (htl : ∀ R : VK, R (.ref l) H → tl σ H R) (h : SqL K H l xs) (h0 : ∀ D, H D = none → Pv D 0 (upd H D (.lst []))) (hl : ∀ D i H', i ≤ xs.length → Pv D i H' → SqL K H' l xs)
    (step : ∀ D (i : Nat) (x : V) (H' : Hp) (R : VK) (S : Hp → Prop), H D = none → xs[i]? = some x → Pv D i H' → (∀ y H4 acc, H4 D = some (.lst acc) → acc.length ≤ 100000 → Pv D (i + 1) (upd H4 D (.lst (acc ++ [y]))) → R y H4) → g x (wipe σ vs) H' fun σ2 H2 => wipe σ2 vs = wipe σ vs ∧ tYes σ2 H2 fun b H3 => if b = true then te σ2 H3 R else S H3)
    (q : ∀ D H', H D = none → Pv D xs.length H' → Q (.ref D) H') : tLc (iList K tl) g tYes te vs σ H Q := by
  refine w_lc0L (htl _ ⟨l, rfl, ⟨xs, h⟩, fun D nD => ?_⟩)
  refine lc_list (K := K) (a := l) (xs := xs) (fun i H' => Pv D i H') (h0 D nD) (fun i H' hi p => hl D i H' hi p) (fun i x H' hx p => ?_) (fun H' p => q D H' nD p)
  exact step D i x H' _ _ nD hx p fun y H4 acc e z p4 => ⟨acc, e, Nat.lt_of_le_of_lt z (by decide), p4⟩
end
section
variable {K : PySem.W.Frag} {σ : L2.St} {H H' G : Hp} {Q : VK} {to : TE} {t : TA} {p q x : Addr}
theorem w_bm {T : String} {r : V → List V → Hp → VK → Prop} (h : to σ H fun x H1 => tyV K T x H1 ∧ t σ H1 fun xs H2 => r x xs H2 Q) : tBM K T r to t σ H Q := h
theorem w_bm0 {T : String} {r : V → List V → Hp → VK → Prop} (h : to σ H fun x H1 => tyV K T x H1 ∧ r x [] H1 Q) : tBM0 K T r to σ H Q := h
theorem w_tyL {a : Addr} {xs : List V} {R : Prop} (h : SqL K H a xs) (q : R) : tyV K "list" (.ref a) H ∧ R := ⟨.inl ⟨rfl, xs, h⟩, q⟩
theorem w_app {l : Addr} {xs : List V} {y : V} (h : H l = some (.lst xs)) (hz : xs.length ≤ 100000) (q : Q .non (upd H l (.lst (xs ++ [y])))) : rAppend (.ref l) [y] H Q := ⟨l, xs, y, rfl, rfl, h, Nat.lt_of_le_of_lt hz (by decide), q⟩
theorem w_cat {l b : Addr} {xs zs : List V} (h1 : H l = some (.lst xs)) (h2 : H b = some (.lst zs)) (hz : xs.length + zs.length ≤ 100000) (q : ∀ p, H p = none → Q (.ref p) (upd H p (.lst (xs ++ zs)))) : rCat (.ref l) (.ref b) H Q := ⟨l, b, xs, zs, rfl, rfl, h1, h2, Nat.le_trans hz (by decide), q⟩
theorem ixN_of {n : Nat} {d : Int} (h0 : 0 ≤ d) (h1 : d < n) : ixN n d = some d.toNat := by
  unfold ixN
  rw [if_pos h0, if_pos h1]
theorem nodup_ne {α : Type} {l : List α} (nd : l.Nodup) {i j : Nat} {a b : α} (hi : l[i]? = some a) (hj : l[j]? = some b) (h : i ≠ j) : a ≠ b := by
  obtain ⟨h1, rfl⟩ := List.getElem?_eq_some_iff.mp hi
  obtain ⟨h2, rfl⟩ := List.getElem?_eq_some_iff.mp hj
  have z := List.pairwise_iff_getElem.mp nd
  rcases Nat.lt_or_gt_of_ne h with q | q
  · exact z i j h1 h2 q
  · exact (z j i h2 h1 q).symm
/-- G: what is never changed; it stays through a change at p, if p is none of it -/
theorem sub_chg (s : Same G H) (n : G p = none) (c : Chg p H H') : Same G H' := fun b o e => c b o (s b o e) (ne_of_none e n)
theorem sub_upd {o : HO} (s : Same G H) (n : G p = none) : Same G (upd H p o) := fun b u e => by
  rw [upd_ne (ne_of_none e n)]
  exact s b u e
/-- G grows by what stands in H -/
theorem sub_grow {o : HO} (s : Same G H) (h : H p = some o) : Same (upd G p o) H := fun b u e => by
  by_cases z : b = p
  · subst z
    rw [upd_same] at e
    rw [← e]
    exact h
  · rw [upd_ne z] at e
    exact s b u e
theorem same_grow {o : HO} (n : G p = none) : Same G (upd G p o) := same_new n
theorem none_upd {o : HO} (h : G q = none) (n : q ≠ p) : upd G p o q = none := by rw [upd_ne n]; exact h
/-- G: H without the places of bs -/
def cutH (H : Hp) (bs : List Addr) : Hp := fun b => if b ∈ bs then none else H b
theorem cut_none {bs : List Addr} (h : p ∈ bs) : cutH H bs p = none := if_pos h
theorem cut_some {bs : List Addr} (h : p ∉ bs) : cutH H bs p = H p := if_neg h
theorem cut_same {bs : List Addr} : Same (cutH H bs) H := fun b o e => by
  by_cases h : b ∈ bs
  · rw [cut_none h] at e; cases e
  · rw [cut_some h] at e; exact e
end
section
variable {K : PySem.W.Frag} {σ : L2.St} {H : Hp} {Q : VK} {ta tb tc te : TE} {tl th : TO} {xs : List V}
theorem w_slT {a : Addr} {lo hi : Option Int} (h : SqT K H a xs) (hw : ¬ (HT.sIx xs.length 0 lo = 0 ∧ HT.sIx xs.length xs.length hi = xs.length)) (q : ∀ p, H p = none → Q (.ref p) (upd H p (.tup (cutV xs lo hi)))) : rSlT K (.ref a) lo hi H Q := ⟨a, xs, rfl, h, hw, q⟩
theorem w_inL {neg : Bool} {a : Addr} {x : V} (h : SqL K H a xs) (h1 : flatV x = true) (h2 : xs.all flatV = true) (q : Q (.bl (if neg then !inV x xs else inV x xs)) H) : rIn K neg x (.ref a) H Q := ⟨a, xs, rfl, .inl h, h1, h2, q⟩
theorem w_inT {neg : Bool} {a : Addr} {x : V} (h : SqT K H a xs) (h1 : flatV x = true) (h2 : xs.all flatV = true) (q : Q (.bl (if neg then !inV x xs else inV x xs)) H) : rIn K neg x (.ref a) H Q := ⟨a, xs, rfl, .inr h, h1, h2, q⟩
theorem w_chain {r r' : R2} (q : ta σ H fun x H1 => tb σ H1 fun y H2 => r x y H2 fun z H3 => ∃ k, z = .bl k ∧ (if k = true then tc σ H3 fun w' H4 => r' y w' H4 Q else Q (.bl false) H3)) : tChain r r' ta tb tc σ H Q := q
theorem w_sl {r : V → Option Int → Option Int → Hp → VK → Prop} (q : te σ H fun x H1 => tl σ H1 fun l H2 => th σ H2 fun u H3 => r x l u H3 Q) : tSl r te tl th σ H Q := q
theorem w_nopart {Q : Option Int → Hp → Prop} (q : Q none H) : tNoPart σ H Q := q
theorem w_part {Q : Option Int → Hp → Prop} (q : te σ H fun x H1 => ∃ i, x = .int i ∧ Q (some i) H1) : tPart te σ H Q := q
theorem w_ei {i : Int} {R : Int → Prop} (q : R i) : ∃ k, V.int i = .int k ∧ R k := ⟨i, rfl, q⟩
theorem w_slL {a : Addr} {lo hi : Option Int} (h : SqL K H a xs) (q : ∀ p, H p = none → Q (.ref p) (upd H p (.lst (cutV xs lo hi)))) : rSlL K (.ref a) lo hi H Q := ⟨a, xs, rfl, h, q⟩
def kRev (K : PySem.W.Frag) (Q : VK) (x : V) (H : Hp) : Prop := ∃ a xs, x = .ref a ∧ SqL K H a xs ∧ ∀ p, H p = none → Q (.ref p) (upd H p (.lst xs.reverse))
theorem w_rev0 (q : te σ H fun x H1 => kRev K Q x H1) : tRevL K te σ H Q := q
theorem w_rev {a : Addr} (h : SqL K H a xs) (q : ∀ p, H p = none → Q (.ref p) (upd H p (.lst xs.reverse))) : kRev K Q (.ref a) H := ⟨a, xs, rfl, h, q⟩
theorem w_rep {a : Addr} {k : Int} (h : H a = some (.lst xs)) (h1 : -100000 ≤ k) (h2 : k ≤ 100000) (hz : xs.length ≤ 100) (q : ∀ p, H p = none → Q (.ref p) (upd H p (.lst (List.replicate k.toNat xs).flatten))) : rRep (.ref a) (.int k) H Q :=
  ⟨a, k, xs, rfl, rfl, h, by omega, by omega, by
    have e : xs.length * k.toNat ≤ 100 * 100000 := Nat.mul_le_mul hz (by omega)
    exact Nat.le_trans e (by decide), q⟩
theorem sIx_int (n d : Nat) (i : Int) (h : 0 ≤ i) : HT.sIx n d (some i) = min i.toNat n := by
  obtain ⟨k, rfl⟩ : ∃ k : Nat, i = (k : Int) := ⟨i.toNat, by omega⟩
  rw [HT.sIx_nat]
  simp
theorem cut_to {j : Int} (h : 0 ≤ j) : cutV xs none (some j) = xs.take j.toNat := by
  unfold cutV
  rw [HT.sIx_none, sIx_int _ _ _ h]
  by_cases q : j.toNat ≤ xs.length
  · rw [Nat.min_eq_left q]; simp
  · rw [Nat.min_eq_right (by omega), List.take_of_length_le (by omega : xs.length ≤ j.toNat)]; simp
theorem cut_from {i : Int} (h : 0 ≤ i) : cutV xs (some i) none = xs.drop i.toNat := by
  unfold cutV
  rw [HT.sIx_none, sIx_int _ _ _ h]
  by_cases q : i.toNat ≤ xs.length
  · rw [Nat.min_eq_left q, List.take_of_length_le (by rw [List.length_drop]; omega)]
  · rw [Nat.min_eq_right (by omega)]
    simp [List.drop_eq_nil_of_le (by omega : xs.length ≤ i.toNat)]
theorem cut_mid {i j : Int} (h : 0 ≤ i) (hj : i ≤ j) : cutV xs (some i) (some j) = (xs.drop i.toNat).take (j.toNat - i.toNat) := by
  unfold cutV
  rw [sIx_int _ _ _ h, sIx_int _ _ _ (by omega)]
  by_cases q : i.toNat ≤ xs.length
  · rw [Nat.min_eq_left q]
    by_cases q2 : j.toNat ≤ xs.length
    · rw [Nat.min_eq_left q2]
    · rw [Nat.min_eq_right (by omega), List.take_of_length_le (by rw [List.length_drop]; omega), List.take_of_length_le (by rw [List.length_drop]; omega)]
  · rw [Nat.min_eq_right (by omega)]
    simp [List.drop_eq_nil_of_le (by omega : xs.length ≤ i.toNat)]
    exact .inr (by omega)
end
/-! ### comprehensions over a list of things, with tests: what is kept of each is known -/
theorem map_at {α : Type} {es : List α} {it : α → V} {i : Nat} {x : V} (h : (es.map it)[i]? = some x) : ∃ e, es[i]? = some e ∧ e ∈ es ∧ x = it e := by
  rw [List.getElem?_map] at h
  cases q : es[i]? with
  | none => rw [q] at h; cases h
  | some e =>
    rw [q] at h
    exact ⟨e, rfl, List.mem_of_getElem? q, (Option.some.inj h).symm⟩
section
variable {K : PySem.W.Frag} {σ : L2.St} {H : Hp} {Q : VK} {g : TG} {tt : TT} {te tl : TE} {l : Addr} {vs : List Nat}
theorem lcF_inv {α : Type} (es : List α) (it : α → V) (kp : α → Option V) (htl : ∀ R : VK, R (.ref l) H → tl σ H R) (h : SqL K H l (es.map it)) (hz : es.length ≤ 100000)
    (step : ∀ e, e ∈ es → ∀ (H' : Hp) (R : VK) (S : Hp → Prop), Same H H' → (∀ y, kp e = some y → ∀ H4, Same H' H4 → R y H4) → (kp e = none → ∀ H4, Same H' H4 → S H4) → g (it e) (wipe σ vs) H' fun σ2 H2 => wipe σ2 vs = wipe σ vs ∧ tt σ2 H2 fun b H3 => if b = true then te σ2 H3 R else S H3)
    (q : ∀ D H', Same H H' → H D = none → H' D = some (.lst (es.filterMap kp)) → Q (.ref D) H') : tLc (iList K tl) g tt te vs σ H Q := by
  refine htl _ ⟨l, rfl, ⟨_, h⟩, fun D nD => ?_⟩
  refine lc_list (K := K) (a := l) (xs := es.map it) (fun i H' => i ≤ es.length ∧ Same H H' ∧ H' D = some (.lst ((es.take i).filterMap kp))) ⟨Nat.zero_le _, same_new nD, upd_same⟩ (fun i H' _ p => p.2.1.seq h) (fun i x H' hx p => ?_) (fun H' p => q D H' p.2.1 nD (by
    have e := p.2.2
    rw [List.length_map, List.take_length] at e
    exact e))
  obtain ⟨e, he, hin, rfl⟩ := map_at hx
  have hi : i < es.length := (List.getElem?_eq_some_iff.mp he).1
  have et : es.take (i + 1) = es.take i ++ [e] := by rw [List.take_succ, he]; rfl
  have lz : ((es.take i).filterMap kp).length < sizeLine := by
    refine Nat.lt_of_le_of_lt (List.length_filterMap_le _ _) (Nat.lt_of_le_of_lt ?_ (by decide : 100000 < sizeLine))
    rw [List.length_take]
    omega
  refine step e hin H' _ _ p.2.1 (fun y hy H4 s4 => ⟨_, s4 _ _ p.2.2, lz, hi, same_updF (p.2.1.trans s4) nD, ?_⟩) fun hn H4 s4 => ⟨hi, p.2.1.trans s4, ?_⟩
  · rw [upd_same, et, List.filterMap_append]
    simp [hy]
  · rw [et, List.filterMap_append, s4 _ _ p.2.2]
    simp [hn]
theorem lcF_tup {α : Type} (es : List α) (it : α → V) (kp : α → Option V) (htl : ∀ R : VK, R (.ref l) H → tl σ H R) (h : SqT K H l (es.map it)) (hz : es.length ≤ 100000)
    (step : ∀ e, e ∈ es → ∀ (H' : Hp) (R : VK) (S : Hp → Prop), Same H H' → (∀ y, kp e = some y → ∀ H4, Same H' H4 → R y H4) → (kp e = none → ∀ H4, Same H' H4 → S H4) → g (it e) (wipe σ vs) H' fun σ2 H2 => wipe σ2 vs = wipe σ vs ∧ tt σ2 H2 fun b H3 => if b = true then te σ2 H3 R else S H3)
    (q : ∀ D H', Same H H' → H D = none → H' D = some (.lst (es.filterMap kp)) → Q (.ref D) H') : tLc (iTup K tl) g tt te vs σ H Q := by
  refine htl _ ⟨l, rfl, ⟨_, h⟩, fun D nD => ?_⟩
  refine lc_tup (K := K) (a := l) (xs := es.map it) (fun i H' => i ≤ es.length ∧ Same H H' ∧ H' D = some (.lst ((es.take i).filterMap kp))) ⟨Nat.zero_le _, same_new nD, upd_same⟩ (fun i H' _ p => same_seqT p.2.1 h) (fun i x H' hx p => ?_) (fun H' p => q D H' p.2.1 nD (by
    have e := p.2.2
    rw [List.length_map, List.take_length] at e
    exact e))
  obtain ⟨e, he, hin, rfl⟩ := map_at hx
  have hi : i < es.length := (List.getElem?_eq_some_iff.mp he).1
  have et : es.take (i + 1) = es.take i ++ [e] := by rw [List.take_succ, he]; rfl
  have lz : ((es.take i).filterMap kp).length < sizeLine := by
    refine Nat.lt_of_le_of_lt (List.length_filterMap_le _ _) (Nat.lt_of_le_of_lt ?_ (by decide : 100000 < sizeLine))
    rw [List.length_take]
    omega
  refine step e hin H' _ _ p.2.1 (fun y hy H4 s4 => ⟨_, s4 _ _ p.2.2, lz, hi, same_updF (p.2.1.trans s4) nD, ?_⟩) fun hn H4 s4 => ⟨hi, p.2.1.trans s4, ?_⟩
  · rw [upd_same, et, List.filterMap_append]
    simp [hy]
  · rw [et, List.filterMap_append, s4 _ _ p.2.2]
    simp [hn]
end
/-! ### refusals told -/
theorem w_only {K : PySem.W.Frag} {c : Value} {ts : Addr → Value → Option Addr → TS} {Wout : WX} {D : Ends} {σ : L2.St} {H : Hp} {cls : Value} {d : Option Addr} (h : PySem.W.exmOne K cls c = some true) (q : ∀ a, H a = none → ts a cls d D σ H) : wOnly K c ts Wout D cls d σ H :=
  ⟨true, h, fun _ => q, fun z => by cases z⟩
/-! ### lists of pairs of ints, compared -/
def pairD (q : Int × Int) : PyData := .tuple [.int q.1, .int q.2]
theorem pairs_lay : ∀ ps : List (Int × Int), PyData.canLayAll0 (ps.map pairD) = true
  | [] => rfl
  | q :: ps => by
    rw [List.map_cons]
    simp only [PyData.canLayAll0, pairs_lay ps, pairD, PyData.canLay0, Bool.and_self]
theorem pairs_depth : ∀ ps : List (Int × Int), PyData.depthAll (ps.map pairD) ≤ 3
  | [] => by simp [PyData.depthAll]
  | q :: ps => by
    have h := pairs_depth ps
    rw [List.map_cons]
    simp only [PyData.depthAll, pairD, PyData.depth] at h ⊢
    omega
theorem pairs_shaped (ps : List (Int × Int)) : SeqAt.shaped (.list (ps.map pairD)) = true := by
  unfold SeqAt.shaped
  have h := pairs_depth ps
  rw [Bool.and_eq_true]
  refine ⟨by rw [PyData.canLay0]; exact pairs_lay ps, decide_eq_true ?_⟩
  simp only [PyData.depth]
  omega
theorem pairs_eqv (ps : List (Int × Int)) : PyData.eqv (.list (ps.map pairD)) (.list (ps.map pairD)) = true := SeqAt.eqv_refl _ (by rw [PyData.canLay0]; exact pairs_lay ps)
theorem pairs_dp {K : PySem.W.Frag} {H : Hp} : ∀ {rs : List Addr} {ps : List (Int × Int)}, rs.length = ps.length → (∀ (i : Nat) (r : Addr) (m f : Int), rs[i]? = some r → ps[i]? = some (m, f) → H r = some (.tup [.int m, .int f])) → DpAll K H (rs.map V.ref) (ps.map pairD)
  | [], [], _, _ => .nil
  | [], _ :: _, h, _ => by cases h
  | _ :: _, [], h, _ => by cases h
  | r :: rs, (m, f) :: ps, h, k => by
    rw [List.map_cons, List.map_cons]
    exact .cons (.tup (SqT.of (k 0 r m f rfl rfl)) (.cons (.int m) (.cons (.int f) .nil))) (pairs_dp (Nat.succ.inj h) fun i r m f a b => k (i + 1) r m f a b)
theorem w_neD {K : PySem.W.Frag} {H : Hp} {Q : VK} {x y : V} (d : PyData) (h1 : Dp K H x d) (h2 : Dp K H y d) (hs : SeqAt.shaped d = true) (he : PyData.eqv d d = true) (q : Q (.bl false) H) : rNeD K x y H Q := ⟨d, d, h1, h2, hs, hs, by rw [he]; exact q⟩
theorem w_eqD {K : PySem.W.Frag} {H : Hp} {Q : VK} {x y : V} (d : PyData) (h1 : Dp K H x d) (h2 : Dp K H y d) (hs : SeqAt.shaped d = true) (he : PyData.eqv d d = true) (q : Q (.bl true) H) : rEqD K x y H Q := ⟨d, d, h1, h2, hs, hs, by rw [he]; exact q⟩
/-! ### list(range(..)), tuple(range(..)) -/
section
variable {σ : L2.St} {H : Hp} {Q : VK} {ta tb : TE} {te : L2.St → Hp → (Int → Int → Hp → Prop) → Prop}
theorem w_lstRg (q : te σ H fun a b H1 => RgOk a b ∧ ∀ q, H1 q = none → Q (.ref q) (upd H1 q (.lst (rgV a b)))) : tLstRg te σ H Q := q
theorem w_tupRg (q : te σ H fun a b H1 => RgOk a b ∧ ∀ q, H1 q = none → Q (.ref q) (upd H1 q (.tup (rgV a b)))) : tTupRg te σ H Q := q
theorem w_rg1 {Q : Int → Int → Hp → Prop} (q : ta σ H fun x H1 => ∃ n, x = .int n ∧ Q 0 n H1) : tRg1 ta σ H Q := q
theorem w_rg2 {Q : Int → Int → Hp → Prop} (q : ta σ H fun x H1 => tb σ H1 fun y H2 => ∃ i j, x = .int i ∧ y = .int j ∧ Q i j H2) : tRg2 ta tb σ H Q := q
theorem w_eij {i j : Int} {R : Int → Int → Prop} (q : R i j) : ∃ k l, V.int i = .int k ∧ V.int j = .int l ∧ R k l := ⟨i, j, rfl, rfl, q⟩
theorem w_rgok {a b : Int} {R : Prop} (h : 0 ≤ a ∧ b ≤ 16777216 ∧ a ≤ 16777216 ∧ 0 ≤ b) (q : R) : RgOk a b ∧ R := ⟨RgOk.of_le h.1 h.2.1 h.2.2.1 h.2.2.2, q⟩
end
/-! ### values as data: laid, not deep, told apart by == -/
structure DtOk {α : Type} [DecidableEq α] (d : α → PyData) (n : Nat) : Prop where
  lay : ∀ x, (d x).canLay0 = true
  dep : ∀ x, (d x).depth ≤ n
  eqv : ∀ x y, PyData.eqv (d x) (d y) = decide (x = y)
  non : ∀ x, PyData.eqv .none (d x) = false ∧ PyData.eqv (d x) .none = false
section
variable {α β : Type} [DecidableEq α] [DecidableEq β] {d : α → PyData} {n : Nat} {K : PySem.W.Frag} {H : Hp} {Q : VK}
theorem DtOk.int : DtOk PyData.int 0 := ⟨fun x => by rw [PyData.canLay0], fun x => by simp [PyData.depth], fun x y => by
  simp only [PyData.eqv]
  by_cases h : x = y
  · subst h; simp
  · rw [decide_eq_false h]; simpa using h, fun x => by simp [PyData.eqv]⟩
theorem DtOk.layAll (h : DtOk d n) : ∀ xs : List α, PyData.canLayAll0 (xs.map d) = true
  | [] => rfl
  | x :: xs => by
    rw [List.map_cons]
    simp only [PyData.canLayAll0, h.lay x, h.layAll xs, Bool.and_self]
theorem DtOk.depAll (h : DtOk d n) : ∀ xs : List α, PyData.depthAll (xs.map d) ≤ n
  | [] => by simp [PyData.depthAll]
  | x :: xs => by
    have h1 := h.depAll xs
    have h2 := h.dep x
    rw [List.map_cons]
    simp only [PyData.depthAll] at h1 ⊢
    omega
theorem DtOk.eqvAll (h : DtOk d n) : ∀ xs ys : List α, PyData.eqvAll (xs.map d) (ys.map d) = decide (xs = ys)
  | [], [] => by simp [PyData.eqvAll]
  | [], y :: ys => by simp [PyData.eqvAll]
  | x :: xs, [] => by simp [PyData.eqvAll]
  | x :: xs, y :: ys => by
    rw [List.map_cons, List.map_cons]
    simp only [PyData.eqvAll, h.eqv x y, h.eqvAll xs ys]
    by_cases e : x = y <;> by_cases e2 : xs = ys <;> simp [e, e2]
theorem DtOk.list (h : DtOk d n) : DtOk (fun xs : List α => .list (xs.map d)) (n + 1) := ⟨fun xs => by rw [PyData.canLay0]; exact h.layAll xs, fun xs => by
  have := h.depAll xs
  simp only [PyData.depth]
  omega, fun xs ys => by rw [PyData.eqv]; exact h.eqvAll xs ys, fun x => by simp [PyData.eqv]⟩
theorem DtOk.tuple (h : DtOk d n) : DtOk (fun xs : List α => .tuple (xs.map d)) (n + 1) := ⟨fun xs => by rw [PyData.canLay0]; exact h.layAll xs, fun xs => by
  have := h.depAll xs
  simp only [PyData.depth]
  omega, fun xs ys => by rw [PyData.eqv]; exact h.eqvAll xs ys, fun x => by simp [PyData.eqv]⟩
/-- told apart by what they are made of -/
theorem DtOk.of {f : β → α} (h : DtOk d n) (hf : ∀ x y, f x = f y → x = y) : DtOk (fun x => d (f x)) n := ⟨fun x => h.lay _, fun x => h.dep _, fun x y => by
  rw [h.eqv]
  by_cases e : x = y
  · subst e; simp
  · rw [decide_eq_false e, decide_eq_false (fun z => e (hf _ _ z))], fun x => h.non _⟩
def optD (d : α → PyData) : Option α → PyData
  | none => .none
  | some x => d x
theorem DtOk.opt (h : DtOk d n) : ∀ x y : Option α, (optD d x).canLay0 = true ∧ (optD d x).depth ≤ n ∧ PyData.eqv (optD d x) (optD d y) = decide (x = y)
  | none, none => ⟨by simp only [optD]; rw [PyData.canLay0], by simp [optD, PyData.depth], by simp [optD, PyData.eqv]⟩
  | none, some y => ⟨by simp only [optD]; rw [PyData.canLay0], by simp [optD, PyData.depth], by simp [optD, (h.non y).1]⟩
  | some x, none => ⟨h.lay x, h.dep x, by simp [optD, (h.non x).2]⟩
  | some x, some y => ⟨h.lay x, h.dep x, by simp [optD, h.eqv]⟩
theorem shaped_of {e : PyData} (h : e.canLay0 = true) (h2 : e.depth ≤ n) (hn : n ≤ 64) : SeqAt.shaped e = true := by
  unfold SeqAt.shaped
  rw [Bool.and_eq_true]
  exact ⟨h, decide_eq_true (Nat.le_trans h2 hn)⟩
theorem w_eqDt (h : DtOk d n) {x y : V} {a b : α} (h1 : Dp K H x (d a)) (h2 : Dp K H y (d b)) (q : Q (.bl (decide (a = b))) H) (hn : n ≤ 64 := by decide) : rEqD K x y H Q :=
  ⟨d a, d b, h1, h2, shaped_of (h.lay a) (h.dep a) hn, shaped_of (h.lay b) (h.dep b) hn, by rw [h.eqv]; exact q⟩
theorem w_neDt (h : DtOk d n) {x y : V} {a b : α} (h1 : Dp K H x (d a)) (h2 : Dp K H y (d b)) (q : Q (.bl (!decide (a = b))) H) (hn : n ≤ 64 := by decide) : rNeD K x y H Q :=
  ⟨d a, d b, h1, h2, shaped_of (h.lay a) (h.dep a) hn, shaped_of (h.lay b) (h.dep b) hn, by rw [h.eqv]; exact q⟩
theorem w_eqDo (h : DtOk d n) {x y : V} {a b : Option α} (h1 : Dp K H x (optD d a)) (h2 : Dp K H y (optD d b)) (q : Q (.bl (decide (a = b))) H) (hn : n ≤ 64 := by decide) : rEqD K x y H Q :=
  ⟨_, _, h1, h2, shaped_of (h.opt a a).1 (h.opt a a).2.1 hn, shaped_of (h.opt b b).1 (h.opt b b).2.1 hn, by rw [(h.opt a b).2.2]; exact q⟩
theorem w_neDo (h : DtOk d n) {x y : V} {a b : Option α} (h1 : Dp K H x (optD d a)) (h2 : Dp K H y (optD d b)) (q : Q (.bl (!decide (a = b))) H) (hn : n ≤ 64 := by decide) : rNeD K x y H Q :=
  ⟨_, _, h1, h2, shaped_of (h.opt a a).1 (h.opt a a).2.1 hn, shaped_of (h.opt b b).1 (h.opt b b).2.1 hn, by rw [(h.opt a b).2.2]; exact q⟩
theorem dp_map {d : α → PyData} {it : α → V} : ∀ es : List α, (∀ e ∈ es, Dp K H (it e) (d e)) → DpAll K H (es.map it) (es.map d)
  | [], _ => .nil
  | e :: es, h => by
    rw [List.map_cons, List.map_cons]
    exact .cons (h e (List.mem_cons_self ..)) (dp_map es fun e' h' => h e' (List.mem_cons_of_mem _ h'))
theorem dp_mapE {α : Type} {d : α → PyData} {it : α → V} : ∀ es : List α, (∀ e ∈ es, Dp K H (it e) (d e)) → DpAll K H (es.map it) (es.map d)
  | [], _ => .nil
  | e :: es, h => by
    rw [List.map_cons, List.map_cons]
    exact .cons (h e (List.mem_cons_self ..)) (dp_mapE es fun e' h' => h e' (List.mem_cons_of_mem _ h'))
end
/-! ### 1. What values are -/
def isI : V → Bool
  | .int _ => true
  | _ => false
def cnt : V → Bool
  | .int n => decide (0 ≤ n)
  | _ => false
/-- its type is known, and says whether it is an int that is no bool -/
def KInt (K : PySem.W.Frag) (H : Hp) (v : V) (b : Bool) : Prop := ∃ (t : Value) (b1 b2 : Bool), TyX K H v t ∧ PySem.W.kitOne K t (.type "int") = some b1 ∧ (b1 = true → PySem.W.kitOne K t (.type "bool") = some b2) ∧ b = (b1 && !b2)
theorem kint_int {K : PySem.W.Frag} {H : Hp} (n : Int) : KInt K H (.int n) true :=
  ⟨.type "int", true, false, .base (.int n), kit_ty (by decide +kernel), fun _ => kit_ty (by decide +kernel), rfl⟩
def spInt (K : PySem.W.Frag) : Sp := fun vs H Q _ => ∃ (v : V) (b : Bool), vs = [v] ∧ KInt K H v b ∧ Q (.bl b) H
def spCount (K : PySem.W.Frag) : Sp := fun vs H Q _ => ∃ (v : V), vs = [v] ∧ KInt K H v (isI v) ∧ Q (.bl (cnt v)) H
def spList (K : PySem.W.Frag) : Sp := fun vs H Q _ => ∃ (v : V) (t : Value) (b : Bool), vs = [v] ∧ TyX K H v t ∧ PySem.W.kitAny K t [.type "list", .type "tuple"] = some b ∧ ∀ H', Same H H' → Q (.bl b) H'
/-- a pot: two numbers that are not negative, the second one small -/
def Pot (H : Hp) (p : Addr) : Prop := ∃ x y : Int, H p = some (.lst [.int x, .int y]) ∧ 0 ≤ x ∧ 0 ≤ y ∧ y < 4294967296
def spPot (K : PySem.W.Frag) : Sp := fun vs H Q _ => ∃ (s : Addr) (ns : List Int) (k : Int), vs = [.ref s, .int k] ∧ SqL K H s (ns.map V.int) ∧ 0 ≤ k ∧ k ≤ 1000 ∧
  ∀ p H', Same H H' → H p = none → Pot H' p → Q (.ref p) H'
def spDraw : Sp := fun vs H Q _ => ∃ (p : Addr) (n : Int), vs = [.ref p, .int n] ∧ Pot H p ∧ 0 < n ∧ n < 1000000000 ∧
  ∀ d H', Chg p H H' → Pot H' p → 0 ≤ d → d < n → Q (.int d) H'
def spPick (K : PySem.W.Frag) : Sp := fun vs H Q _ => ∃ (p s : Addr) (xs : List V), vs = [.ref p, .ref s] ∧ Pot H p ∧ SqL K H s xs ∧ s ≠ p ∧ (∀ H', Chg p H H' → SqL K H' s xs) ∧ 0 < xs.length ∧ xs.length < 1000000000 ∧
  ∀ v H', Chg p H H' → Pot H' p → v ∈ xs → Q v H'
theorem Pot.same {H H' : Hp} {p : Addr} (s : Same H H') : Pot H p → Pot H' p := fun ⟨x, y, h, r⟩ => ⟨x, y, s _ _ h, r⟩
theorem Pot.chg {H H' : Hp} {p q : Addr} (s : Chg q H H') (n : p ≠ q) : Pot H p → Pot H' p := fun ⟨x, y, h, r⟩ => ⟨x, y, s _ _ h n, r⟩
theorem Pot.upd {H : Hp} {p q : Addr} {o : HO} (n : p ≠ q) : Pot H p → Pot (L2.upd H q o) p := fun ⟨x, y, h, r⟩ => ⟨x, y, (upd_ne n).trans h, r⟩
theorem Pot.new {H : Hp} {p q : Addr} {o : HO} (n : H q = none) : Pot H p → Pot (L2.upd H q o) p := Pot.same (same_new n)
theorem Pot.ne {H : Hp} {p q : Addr} (n : H q = none) : Pot H p → p ≠ q := fun ⟨x, y, h, r⟩ => ne_of_none h n
theorem Pot.ntup {H : Hp} {p : Addr} : Pot H p → ∀ xs, H p ≠ some (.tup xs) := fun ⟨x, y, h, _⟩ xs z => by rw [h] at z; cases z
def due (ns : List Int) (i : Nat) (m : Int) : Int := if i < ns.length then ns.getD i 0 % m else 0
def spDue (K : PySem.W.Frag) : Sp := fun vs H Q _ => ∃ (s : Addr) (ns : List Int) (i : Nat) (m : Int), vs = [.ref s, .int i, .int m] ∧ SqL K H s (ns.map V.int) ∧ 0 < m ∧ Q (.int (due ns i m)) H
/-! ### 2. Whims -/
def fW (t : Addr) (n : Int) : List (Str × V) := [("own_numbers", V.ref t), ("own_taken", V.int n)]
/-- a Whims of the numbers ns stands at w, n were taken -/
def WhAt (C : Addr) (H : Hp) (w : Addr) (ns : List Int) (n : Nat) : Prop := ∃ dx t, H w = some (.ins C dx (fW t n)) ∧ H t = some (.tup (ns.map V.int))
def NumsOk (ns : List Int) : Prop := ns.length ≤ 200 ∧ ∀ n ∈ ns, 0 ≤ n ∧ n ≤ 1000000
def spWInit (C : Addr) : Sp := fun vs H Q _ => ∃ (x dx l : Addr) (ns : List Int), vs = [.ref x, .ref l] ∧ H x = some (.ins C dx []) ∧ (H l = some (.lst (ns.map V.int)) ∨ H l = some (.tup (ns.map V.int))) ∧ NumsOk ns ∧
  ∀ H', Chg x H H' → WhAt C H' x ns 0 → Q .non H'
def spWTaken (C : Addr) : Sp := fun vs H Q _ => ∃ (x : Addr) (ns : List Int) (n : Nat), vs = [.ref x] ∧ WhAt C H x ns n ∧ Q (.int n) H
def spWTake (K : PySem.W.Frag) (C D : Addr) : Sp := fun vs H Q E => ∃ (x : Addr) (ns : List Int) (n : Nat) (m : Int), vs = [.ref x, .int m] ∧ WhAt C H x ns n ∧ (0 < m → ∀ H', Chg x H H' → WhAt C H' x ns (n + 1) → Q (.int (due ns n m)) H') ∧
  (¬ 0 < m → ∀ d H', Same H H' → H d = none → H' d = some (.xd [("value", .int m)]) → E (.ref D) (some d) H')
def spWCopy (C : Addr) : Sp := fun vs H Q _ => ∃ (x : Addr) (ns : List Int) (n : Nat), vs = [.ref x] ∧ WhAt C H x ns n ∧ NumsOk ns ∧ ∀ y H', Same H H' → H y = none → WhAt C H' y ns n → Q (.ref y) H'
theorem WhAt.same {C : Addr} {H H' : Hp} {w : Addr} {ns : List Int} {n : Nat} (s : Same H H') : WhAt C H w ns n → WhAt C H' w ns n := fun ⟨dx, t, h1, h2⟩ => ⟨dx, t, s _ _ h1, s _ _ h2⟩
theorem WhAt.chg {C x : Addr} {H H' : Hp} {w : Addr} {ns : List Int} {n : Nat} (c : Chg x H H') (h : w ≠ x) (hx : ∀ xs, H x ≠ some (.tup xs)) : WhAt C H w ns n → WhAt C H' w ns n := fun ⟨dx, t, h1, h2⟩ =>
  ⟨dx, t, c _ _ h1 h, c _ _ h2 (fun z => hx _ (by rw [← z]; exact h2))⟩
theorem WhAt.ne_pot {C : Addr} {H : Hp} {w p : Addr} {ns : List Int} {n : Nat} : WhAt C H w ns n → Pot H p → w ≠ p := fun ⟨dx, t, h1, _⟩ ⟨x, y, h2, _⟩ => ne_of h1 h2 (by intro z; cases z)
theorem WhAt.updL {C : Addr} {H : Hp} {w x : Addr} {ns : List Int} {n : Nat} {xs : List V} {o : HO} (z : WhAt C H w ns n) (h : H x = some (.lst xs)) : WhAt C (L2.upd H x o) w ns n := by
  obtain ⟨dx, t, h1, h2⟩ := z
  exact ⟨dx, t, (upd_ne (ne_of h1 h (by intro z; cases z))).trans h1, (upd_ne (ne_of h2 h (by intro z; cases z))).trans h2⟩
/-! ### bits, the lowest first -/
def bitsL : Nat → Int → List Int
  | 0, _ => []
  | n + 1, x => x % 2 :: bitsL n (x / 2)
def ofL : List Int → Int
  | [] => 0
  | b :: r => b + 2 * ofL r
def addL : List Int → List Int → Int → List Int
  | p :: a, q :: b, c => (p + q + c) % 2 :: addL a b ((p + q + c) / 2)
  | _, _, _ => []
theorem bitsL_len (n : Nat) : ∀ x, (bitsL n x).length = n := by
  induction n with
  | zero => intro x; rfl
  | succ n ih => intro x; simp [bitsL, ih]
theorem mod_two_mul (t u M : Int) (hM : 0 < M) : (t + 2 * u) % (2 * M) = t % 2 + 2 * ((t / 2 + u) % M) := by
  have h1 := Int.emod_add_mul_ediv (t / 2 + u) M
  have h2 := Int.emod_nonneg (t / 2 + u) (show M ≠ 0 by omega)
  have h3 := Int.emod_lt_of_pos (t / 2 + u) hM
  have e : t + 2 * u = (t % 2 + 2 * ((t / 2 + u) % M)) + (2 * M) * ((t / 2 + u) / M) := by
    have h4 : 2 * (t / 2 + u) = 2 * ((t / 2 + u) % M) + (2 * M) * ((t / 2 + u) / M) := by
      rw [Int.mul_assoc, ← Int.mul_add, h1]
    omega
  rw [e, Int.add_mul_emod_self_left]
  exact Int.emod_eq_of_lt (by omega) (by omega)
theorem pow_pos2 (n : Nat) : (0 : Int) < 2 ^ n := Int.pow_pos (by decide)
theorem of_bits (n : Nat) : ∀ x, ofL (bitsL n x) = x % 2 ^ n := by
  induction n with
  | zero => intro x; simp [bitsL, ofL, Int.emod_one]
  | succ n ih =>
    intro x
    show x % 2 + 2 * ofL (bitsL n (x / 2)) = _
    rw [ih, Int.pow_succ', show x = x + 2 * 0 by omega, mod_two_mul _ _ _ (pow_pos2 n)]
    simp
theorem of_add : ∀ (a b : List Int) (c : Int), a.length = b.length → ofL (addL a b c) = (ofL a + ofL b + c) % 2 ^ a.length
  | [], [], c, _ => by simp [addL, ofL, Int.emod_one]
  | p :: a, q :: b, c, h => by
    have ih := of_add a b ((p + q + c) / 2) (by simpa using h)
    show (p + q + c) % 2 + 2 * ofL (addL a b ((p + q + c) / 2)) = (p + 2 * ofL a + (q + 2 * ofL b) + c) % 2 ^ (a.length + 1)
    rw [ih, Int.pow_succ', show p + 2 * ofL a + (q + 2 * ofL b) + c = (p + q + c) + 2 * (ofL a + ofL b) by omega, mod_two_mul _ _ _ (pow_pos2 _)]
    congr 3
    omega
theorem add_len : ∀ (a b : List Int) (c : Int), a.length = b.length → (addL a b c).length = a.length
  | [], [], _, _ => rfl
  | p :: a, q :: b, c, h => by
    show (addL a b _).length + 1 = a.length + 1
    rw [add_len a b _ (by simpa using h)]
theorem of_app : ∀ (a b : List Int), ofL (a ++ b) = ofL a + 2 ^ a.length * ofL b
  | [], b => by simp [ofL]
  | p :: a, b => by
    show p + 2 * ofL (a ++ b) = p + 2 * ofL a + 2 ^ (a.length + 1) * ofL b
    rw [of_app a b, Int.pow_succ', Int.mul_assoc]
    omega
theorem bits_take : ∀ (n k : Nat) (x : Int), (bitsL n x).take k = bitsL (min k n) x
  | 0, k, x => by simp [bitsL]
  | n + 1, 0, x => by simp [bitsL]
  | n + 1, k + 1, x => by
    rw [show min (k + 1) (n + 1) = min k n + 1 by omega]
    simp [bitsL, bits_take n k]
theorem bits_drop : ∀ (n k : Nat) (x : Int), (bitsL n x).drop k = bitsL (n - k) (x / 2 ^ k)
  | 0, k, x => by simp [bitsL]
  | n + 1, 0, x => by simp
  | n + 1, k + 1, x => by
    rw [show n + 1 - (k + 1) = n - k by omega, Int.pow_succ', ← Int.ediv_ediv_of_nonneg (by decide)]
    simp [bitsL, bits_drop n k]
theorem bits_mem : ∀ (n : Nat) (x b : Int), b ∈ bitsL n x → b = 0 ∨ b = 1
  | 0, x, b, h => by cases h
  | n + 1, x, b, h => by
    rcases List.mem_cons.mp h with h | h
    · omega
    · exact bits_mem n _ b h
theorem of_rep (k : Nat) : ofL (List.replicate k 0) = 0 := by
  induction k with
  | zero => rfl
  | succ k ih => simp [List.replicate_succ, ofL, ih]
/-- both, either, unlike -/
theorem of_and (n : Nat) : ∀ (x y : Nat), x < 2 ^ n → y < 2 ^ n → ofL (List.zipWith (fun p q => p * q) (bitsL n x) (bitsL n y)) = ((x &&& y : Nat) : Int) := by
  induction n with
  | zero =>
    intro x y hx hy
    have e : x = 0 := by simpa using hx
    have e' : y = 0 := by simpa using hy
    subst e e'
    simp [bitsL, ofL]
  | succ n ih =>
    intro x y hx hy
    have h := ih (x / 2) (y / 2) (by rw [Nat.pow_succ] at hx; omega) (by rw [Nat.pow_succ] at hy; omega)
    show (fun p q : Int => p * q) ((x : Int) % 2) ((y : Int) % 2) + 2 * ofL (List.zipWith _ (bitsL n ((x : Int) / 2)) (bitsL n ((y : Int) / 2))) = _
    rw [show (x : Int) / 2 = ((x / 2 : Nat) : Int) by omega, show (y : Int) / 2 = ((y / 2 : Nat) : Int) by omega, h]
    have e1 : (x &&& y) / 2 = x / 2 &&& y / 2 := Nat.and_div_two
    have e2 : (x &&& y) % 2 = (x % 2) &&& (y % 2) := Nat.and_mod_two_pow (n := 1)
    rw [← e1]
    have q1 : x % 2 = 0 ∨ x % 2 = 1 := by omega
    have q2 : y % 2 = 0 ∨ y % 2 = 1 := by omega
    have q3 : (x : Int) % 2 = ((x % 2 : Nat) : Int) := by omega
    have q4 : (y : Int) % 2 = ((y % 2 : Nat) : Int) := by omega
    show (fun p q : Int => p * q) ((x : Int) % 2) ((y : Int) % 2) + _ = _
    rw [q3, q4]
    rcases q1 with q1 | q1 <;> rcases q2 with q2 | q2 <;> (rw [q1, q2] at e2 ⊢; generalize x &&& y = z at e2 ⊢; simp at e2 ⊢; omega)
theorem of_or (n : Nat) : ∀ (x y : Nat), x < 2 ^ n → y < 2 ^ n → ofL (List.zipWith (fun p q => if q > p then q else p) (bitsL n x) (bitsL n y)) = ((x ||| y : Nat) : Int) := by
  induction n with
  | zero =>
    intro x y hx hy
    have e : x = 0 := by simpa using hx
    have e' : y = 0 := by simpa using hy
    subst e e'
    simp [bitsL, ofL]
  | succ n ih =>
    intro x y hx hy
    have h := ih (x / 2) (y / 2) (by rw [Nat.pow_succ] at hx; omega) (by rw [Nat.pow_succ] at hy; omega)
    show (fun p q : Int => if q > p then q else p) ((x : Int) % 2) ((y : Int) % 2) + 2 * ofL (List.zipWith _ (bitsL n ((x : Int) / 2)) (bitsL n ((y : Int) / 2))) = _
    rw [show (x : Int) / 2 = ((x / 2 : Nat) : Int) by omega, show (y : Int) / 2 = ((y / 2 : Nat) : Int) by omega, h]
    have e1 : (x ||| y) / 2 = x / 2 ||| y / 2 := Nat.or_div_two
    have e2 : (x ||| y) % 2 = (x % 2) ||| (y % 2) := Nat.or_mod_two_pow (n := 1)
    rw [← e1]
    have q1 : x % 2 = 0 ∨ x % 2 = 1 := by omega
    have q2 : y % 2 = 0 ∨ y % 2 = 1 := by omega
    have q3 : (x : Int) % 2 = ((x % 2 : Nat) : Int) := by omega
    have q4 : (y : Int) % 2 = ((y % 2 : Nat) : Int) := by omega
    show (fun p q : Int => if q > p then q else p) ((x : Int) % 2) ((y : Int) % 2) + _ = _
    rw [q3, q4]
    rcases q1 with q1 | q1 <;> rcases q2 with q2 | q2 <;> (rw [q1, q2] at e2 ⊢; generalize x ||| y = z at e2 ⊢; simp at e2 ⊢; omega)
theorem of_xor (n : Nat) : ∀ (x y : Nat), x < 2 ^ n → y < 2 ^ n → ofL (List.zipWith (fun p q => if p - q < 0 then -(p - q) else p - q) (bitsL n x) (bitsL n y)) = ((x ^^^ y : Nat) : Int) := by
  induction n with
  | zero =>
    intro x y hx hy
    have e : x = 0 := by simpa using hx
    have e' : y = 0 := by simpa using hy
    subst e e'
    simp [bitsL, ofL]
  | succ n ih =>
    intro x y hx hy
    have h := ih (x / 2) (y / 2) (by rw [Nat.pow_succ] at hx; omega) (by rw [Nat.pow_succ] at hy; omega)
    show (fun p q : Int => if p - q < 0 then -(p - q) else p - q) ((x : Int) % 2) ((y : Int) % 2) + 2 * ofL (List.zipWith _ (bitsL n ((x : Int) / 2)) (bitsL n ((y : Int) / 2))) = _
    rw [show (x : Int) / 2 = ((x / 2 : Nat) : Int) by omega, show (y : Int) / 2 = ((y / 2 : Nat) : Int) by omega, h]
    have e1 : (x ^^^ y) / 2 = x / 2 ^^^ y / 2 := Nat.xor_div_two
    have e2 : (x ^^^ y) % 2 = (x % 2) ^^^ (y % 2) := Nat.xor_mod_two_pow (n := 1)
    rw [← e1]
    have q1 : x % 2 = 0 ∨ x % 2 = 1 := by omega
    have q2 : y % 2 = 0 ∨ y % 2 = 1 := by omega
    have q3 : (x : Int) % 2 = ((x % 2 : Nat) : Int) := by omega
    have q4 : (y : Int) % 2 = ((y % 2 : Nat) : Int) := by omega
    show (fun p q : Int => if p - q < 0 then -(p - q) else p - q) ((x : Int) % 2) ((y : Int) % 2) + _ = _
    rw [q3, q4]
    rcases q1 with q1 | q1 <;> rcases q2 with q2 | q2 <;> (rw [q1, q2] at e2 ⊢; generalize x ^^^ y = z at e2 ⊢; simp at e2 ⊢; omega)
/-! ### times: the rows of the one word, added where the other has a bit -/
theorem pow_split (y : Int) (i : Nat) : y % 2 ^ (i + 1) = y % 2 ^ i + 2 ^ i * (y / 2 ^ i % 2) := by
  have h1 := Int.emod_add_mul_ediv y (2 ^ i)
  have h2 := Int.emod_add_mul_ediv (y / 2 ^ i) 2
  have h3 := Int.emod_nonneg y (show (2 : Int) ^ i ≠ 0 from (by have := pow_pos2 i; omega))
  have h4 := Int.emod_lt_of_pos y (pow_pos2 i)
  have h5 : y / 2 ^ i % 2 = 0 ∨ y / 2 ^ i % 2 = 1 := by omega
  have hp := pow_pos2 i
  have e : y = (y % 2 ^ i + 2 ^ i * (y / 2 ^ i % 2)) + 2 ^ (i + 1) * (y / 2 ^ i / 2) := by
    rw [Int.pow_succ, Int.mul_assoc, Int.add_assoc, ← Int.mul_add, h2, h1]
  conv => lhs; rw [e]
  rw [Int.add_mul_emod_self_left]
  refine Int.emod_eq_of_lt ?_ ?_
  · rcases h5 with h | h <;> rw [h] <;> omega
  · rw [Int.pow_succ]
    rcases h5 with h | h <;> rw [h] <;> omega
theorem nat_and_put (x lo m : Nat) : x &&& ((2 ^ m - 1) * 2 ^ lo) = 2 ^ lo * ((x / 2 ^ lo) % 2 ^ m) := by
  refine Nat.eq_of_testBit_eq fun i => ?_
  rw [Nat.testBit_and, Nat.testBit_mul_two_pow, Nat.testBit_two_pow_mul, Nat.testBit_mod_two_pow, Nat.testBit_div_two_pow, Nat.testBit_two_pow_sub_one]
  by_cases h : lo ≤ i
  · simp [h, Nat.sub_add_cancel h, Nat.add_sub_cancel' h]
    cases x.testBit i <;> simp
  · simp [h]
theorem nat_put (x lo m v : Nat) (hv : v < 2 ^ m) : (x - (x &&& ((2 ^ m - 1) * 2 ^ lo))) ||| (v * 2 ^ lo) = x % 2 ^ lo + 2 ^ lo * v + 2 ^ (lo + m) * (x / 2 ^ (lo + m)) := by
  have h1 := Nat.div_add_mod x (2 ^ lo)
  have h2 := Nat.div_add_mod (x / 2 ^ lo) (2 ^ m)
  have hl : x % 2 ^ lo < 2 ^ lo := Nat.mod_lt _ (Nat.two_pow_pos _)
  have e1 : x - (x &&& ((2 ^ m - 1) * 2 ^ lo)) = 2 ^ lo * (2 ^ m * (x / 2 ^ lo / 2 ^ m)) + x % 2 ^ lo := by
    rw [nat_and_put]
    have e : 2 ^ lo * (x / 2 ^ lo) = 2 ^ lo * (2 ^ m * (x / 2 ^ lo / 2 ^ m)) + 2 ^ lo * (x / 2 ^ lo % 2 ^ m) := by
      rw [← Nat.mul_add, h2]
    omega
  have e2 : (2 ^ lo * (2 ^ m * (x / 2 ^ lo / 2 ^ m)) + x % 2 ^ lo) ||| (v * 2 ^ lo) = 2 ^ lo * ((2 ^ m * (x / 2 ^ lo / 2 ^ m)) ||| v) + x % 2 ^ lo := by
    refine Nat.eq_of_testBit_eq fun i => ?_
    rw [Nat.testBit_or, Nat.testBit_two_pow_mul_add _ hl, Nat.testBit_two_pow_mul_add _ hl, Nat.testBit_mul_two_pow]
    by_cases h : i < lo
    · simp [h, Nat.not_le.mpr h]
    · simp [h, Nat.not_lt.mp h]
  rw [e1, e2, ← Nat.two_pow_add_eq_or_of_lt hv, Nat.mul_add, Nat.pow_add, Nat.div_div_eq_div_mul, Nat.mul_assoc]
  omega
theorem int_put {x lo m v : Int} (hx : 0 ≤ x) (h0 : 0 ≤ lo) (h1 : 0 ≤ m) (hv : 0 ≤ v) (hv2 : v < 2 ^ m.toNat) :
    Builtin.bitOr (Builtin.bitAnd x (Builtin.bitNot ((1 * 2 ^ m.toNat - 1) * 2 ^ lo.toNat))) (v * 2 ^ lo.toNat) = x % 2 ^ lo.toNat + 2 ^ lo.toNat * v + 2 ^ (lo.toNat + m.toNat) * (x / 2 ^ (lo.toNat + m.toNat)) := by
  obtain ⟨x, rfl⟩ := Int.eq_ofNat_of_zero_le hx
  obtain ⟨v, rfl⟩ := Int.eq_ofNat_of_zero_le hv
  generalize lo.toNat = lo
  generalize m.toNat = m at hv2 ⊢
  have hv3 : v < 2 ^ m := by exact_mod_cast hv2
  have hp : 1 ≤ 2 ^ m := Nat.two_pow_pos m
  have eM : ((1 : Int) * 2 ^ m - 1) * 2 ^ lo = (((2 ^ m - 1) * 2 ^ lo : Nat) : Int) := by
    rw [Int.one_mul, Int.natCast_mul, Int.natCast_sub hp]
    simp
  have eA : Builtin.bitAnd (x : Int) (Builtin.bitNot ((1 * 2 ^ m - 1) * 2 ^ lo)) = ((x - (x &&& ((2 ^ m - 1) * 2 ^ lo)) : Nat) : Int) := by
    rw [eM]
    generalize (2 ^ m - 1) * 2 ^ lo = M
    have hle : x &&& M ≤ x := Nat.and_le_left
    rw [PyProof.Rows.bitAnd_not, PyProof.Rows.bitAnd_pp (by omega) (by omega), Int.toNat_natCast, Int.toNat_natCast]
    omega
  rw [eA]
  have eV : (v : Int) * 2 ^ lo = ((v * 2 ^ lo : Nat) : Int) := by simp
  rw [eV, Bits.bitOr_pp (by omega) (by omega), Int.toNat_natCast, Int.toNat_natCast, nat_put x lo m v hv3]
  simp
theorem pow_le2 {k n : Nat} (h : k ≤ n) : (2 : Int) ^ k ≤ 2 ^ n := by exact_mod_cast Nat.pow_le_pow_right (by decide) h
/-! ### words, numbers within bounds: asked for, refused -/
def isWord : V → Bool
  | .int n => decide (0 ≤ n) && decide (n < 65536)
  | _ => false
def isMany (lo hi : Int) : V → Bool
  | .int n => decide (0 ≤ n) && (decide (lo ≤ n) && decide (n ≤ hi))
  | _ => false
def W16 (x : Int) : Prop := 0 ≤ x ∧ x < 65536
theorem isWord_of {x : Int} (h : W16 x) : isWord (.int x) = true := by
  obtain ⟨h1, h2⟩ := h
  simp [isWord, h1, h2]
theorem isMany_of {x lo hi : Int} (h0 : 0 ≤ x) (h1 : lo ≤ x) (h2 : x ≤ hi) : isMany lo hi (.int x) = true := by simp [isMany, h0, h1, h2]
/-- what is wanted of a refusal of v by an error of the class at C -/
def Refuse (C : Addr) (E : XK) (H : Hp) (v : V) : Prop := ∀ d H', Same H H' → H d = none → H' d = some (.xd [("value", v)]) → E (.ref C) (some d) H'
def spIsWord (K : PySem.W.Frag) : Sp := fun vs H Q _ => ∃ (v : V), vs = [v] ∧ KInt K H v (isI v) ∧ Q (.bl (isWord v)) H
def spWantWord (K : PySem.W.Frag) (C : Addr) : Sp := fun vs H Q E => ∃ (v : V), vs = [v] ∧ KInt K H v (isI v) ∧ (isWord v = true → Q .non H) ∧ (isWord v = false → Refuse C E H v)
def spWantMany (K : PySem.W.Frag) (C : Addr) : Sp := fun vs H Q E => ∃ (v : V) (lo hi : Int), vs = [v, .int lo, .int hi] ∧ KInt K H v (isI v) ∧ (isMany lo hi v = true → Q .non H) ∧ (isMany lo hi v = false → Refuse C E H v)
theorem w_wantWord {K : PySem.W.Frag} {C : Addr} {H : Hp} {Q : VK} {E : XK} {x : Int} (h : W16 x) (q : Q .non H) : spWantWord K C [.int x] H Q E := ⟨_, rfl, kint_int x, fun _ => q, fun z => by rw [isWord_of h] at z; cases z⟩
theorem w_wantMany {K : PySem.W.Frag} {C : Addr} {H : Hp} {Q : VK} {E : XK} {x lo hi : Int} (h0 : 0 ≤ x) (h1 : lo ≤ x) (h2 : x ≤ hi) (q : Q .non H) : spWantMany K C [.int x, .int lo, .int hi] H Q E := ⟨_, _, _, rfl, kint_int x, fun _ => q, fun z => by rw [isMany_of h0 h1 h2] at z; cases z⟩
/-- two words to one number -/
def spW2 (f : Int → Int → Int) (ok : Int → Int → Prop) : Sp := fun vs H Q _ => ∃ x y : Int, vs = [.int x, .int y] ∧ ok x y ∧ Q (.int (f x y)) H
def spI1 (f : Int → Int) (ok : Int → Prop) : Sp := fun vs H Q _ => ∃ x : Int, vs = [.int x] ∧ ok x ∧ Q (.int (f x)) H
def spI3 (f : Int → Int → Int → Int) (ok : Int → Int → Int → Prop) : Sp := fun vs H Q _ => ∃ x y z : Int, vs = [.int x, .int y, .int z] ∧ ok x y z ∧ Q (.int (f x y z)) H
def spI4 (f : Int → Int → Int → Int → Int) (ok : Int → Int → Int → Int → Prop) : Sp := fun vs H Q _ => ∃ x y z u : Int, vs = [.int x, .int y, .int z, .int u] ∧ ok x y z u ∧ Q (.int (f x y z u)) H
def spTwoW (K : PySem.W.Frag) : Sp := fun vs H Q _ => ∃ x y : Int, vs = [.int x, .int y] ∧ (W16 x ∧ W16 y) ∧ Q .non H
/-- a new list of ints -/
def NewL (H : Hp) (Q : VK) (xs : List Int) : Prop := ∀ p H', Same H H' → H p = none → H' p = some (.lst (xs.map V.int)) → Q (.ref p) H'
/-! ### loops and comprehensions over anything that is walked -/
def kLoop (g : TG) (tb : TS) (D : Ends) (σ : L2.St) (J : It) (H : Hp) : Prop := ∃ W : Nat → Nat → L2.St → Hp → Prop, (∃ m, W 0 m σ H) ∧ ∀ i m σ H, W i m σ H →
  (J.stop i H ∧ D.nx σ H) ∨ (J.go i H ∧ ∃ N : L2.St → Hp → Prop, (∀ σ' H', N σ' H' → ∃ m', m' < m ∧ W (i + 1) m' σ' H') ∧ ∀ x H', J.yld i H x H' → g x σ H' fun σ2 H2 => tb { D with nx := N, ct := N, bk := D.nx } σ2 H2)
def kComp (g : TG) (te : TE) (vs : List Nat) (σ : L2.St) (Q : VK) (J : It) (H : Hp) : Prop := ∀ D, H D = none → ∃ W : Nat → Nat → Hp → Prop, (∃ m, W 0 m (upd H D (.lst []))) ∧ ∀ i m H, W i m H →
  (J.stop i H ∧ Q (.ref D) H) ∨ (J.go i H ∧ ∃ Nx : Hp → Prop, (∀ H', Nx H' → ∃ m', m' < m ∧ W (i + 1) m' H') ∧ ∀ x H', J.yld i H x H' → g x (wipe σ vs) H' fun σ2 H2 => wipe σ2 vs = wipe σ vs ∧ tYes σ2 H2 fun b H3 =>
    if b = true then te σ2 H3 fun y H4 => ∃ acc, H4 D = some (.lst acc) ∧ acc.length < sizeLine ∧ Nx (upd H4 D (.lst (acc ++ [y]))) else Nx H3)
section
variable {K : PySem.W.Frag} {σ : L2.St} {H : Hp} {g : TG} {tb : TS} {te tl : TE} {ta : TA} {nx bk ct : L2.St → Hp → Prop} {rt Q : VK} {vs : List Nat} {J : It} {n : Nat} {G : Hp → Prop} {Y : Nat → Hp → V → Hp → Prop} {R : It → Hp → Prop}
def kZip (K : PySem.W.Frag) (R : It → Hp → Prop) (us : List V) (H : Hp) : Prop := ∃ a b xs ys, us = [.ref a, .ref b] ∧ SqL K H a xs ∧ SqL K H b ys ∧ R (Itz K a b) H
def kEnum (K : PySem.W.Frag) (R : It → Hp → Prop) (us : List V) (H : Hp) : Prop := ∃ a xs, us = [.ref a] ∧ SqL K H a xs ∧ R (Ite K a) H
theorem w_forZ (q : ta σ H fun us H1 => kZip K (kLoop g tb ⟨nx, rt, bk, ct⟩ σ) us H1) : tFor (iZip K ta) g tb ⟨nx, rt, bk, ct⟩ σ H := q
theorem w_forE (q : ta σ H fun us H1 => kEnum K (kLoop g tb ⟨nx, rt, bk, ct⟩ σ) us H1) : tFor (iEnum K ta) g tb ⟨nx, rt, bk, ct⟩ σ H := q
theorem w_lcZ (q : ta σ H fun us H1 => kZip K (kComp g te vs σ Q) us H1) : tLc (iZip K ta) g tYes te vs σ H Q := q
theorem w_lcE (q : ta σ H fun us H1 => kEnum K (kComp g te vs σ Q) us H1) : tLc (iEnum K ta) g tYes te vs σ H Q := q
theorem w_zip {a b : Addr} {xs ys : List V} (h1 : SqL K H a xs) (h2 : SqL K H b ys) (q : R (Itz K a b) H) : kZip K R [.ref a, .ref b] H := ⟨a, b, xs, ys, rfl, h1, h2, q⟩
theorem w_enum {a : Addr} {xs : List V} (h1 : SqL K H a xs) (q : R (Ite K a) H) : kEnum K R [.ref a] H := ⟨a, xs, rfl, h1, q⟩
theorem w_loop (w : Walk J n G Y) (Pv : Nat → L2.St → Hp → Prop) (h0 : Pv 0 σ H) (hG : ∀ i σ H, i ≤ n → Pv i σ H → G H)
    (hs : ∀ i x σ' H' H'', i < n → Pv i σ' H' → Y i H' x H'' → g x σ' H'' fun σ2 H2 => tb ⟨Pv (i + 1), rt, nx, Pv (i + 1)⟩ σ2 H2) (hd : ∀ σ' H', Pv n σ' H' → nx σ' H') : kLoop g tb ⟨nx, rt, bk, ct⟩ σ J H :=
  for_it w (D := ⟨nx, rt, bk, ct⟩) Pv h0 hG hs hd
/-- each turn of a comprehension gives f i, and nothing that stood is changed -/
theorem w_comp (f : Nat → V) (w : Walk J n G Y) (hn : n ≤ 100000) (hG : ∀ H', Same H H' → G H')
    (step : ∀ (i : Nat) (x : V) (H' H'' : Hp) (R : VK) (S : Hp → Prop), i < n → Same H H' → Y i H' x H'' → (Same H' H'' → ∀ H4, Same H'' H4 → R (f i) H4) → g x (wipe σ vs) H'' fun σ2 H2 => wipe σ2 vs = wipe σ vs ∧ tYes σ2 H2 fun b H3 => if b = true then te σ2 H3 R else S H3)
    (q : ∀ D H', Same H H' → H D = none → H' D = some (.lst ((List.range n).map f)) → Q (.ref D) H') : kComp g te vs σ Q J H := fun D nD => by
  refine lc_it w (fun i H' => i ≤ n ∧ Same H H' ∧ H' D = some (.lst ((List.range i).map f))) ⟨Nat.zero_le _, same_new nD, upd_same⟩ (fun i H' _ p => hG _ p.2.1) (fun i x H' H'' hi p y => ?_) (fun H' p => q D H' p.2.1 nD p.2.2)
  refine step i x H' H'' _ _ hi p.2.1 y fun s4 H4 s5 => ?_
  have hD4 := s5 _ _ (s4 _ _ p.2.2)
  refine ⟨_, hD4, ?_, hi, lc_inv nD ((p.2.1.trans s4).trans s5) hD4 _ rfl⟩
  rw [List.length_map, List.length_range]
  exact Nat.lt_of_lt_of_le (Nat.lt_of_lt_of_le hi hn) (by decide)
end
/-! ### lists of ints, compared -/
theorem ints_lay : ∀ ps : List Int, PyData.canLayAll0 (ps.map PyData.int) = true
  | [] => rfl
  | q :: ps => by
    rw [List.map_cons]
    simp only [PyData.canLayAll0, ints_lay ps, PyData.canLay0, Bool.and_self]
theorem ints_depth : ∀ ps : List Int, PyData.depthAll (ps.map PyData.int) ≤ 1
  | [] => by simp [PyData.depthAll]
  | q :: ps => by
    have h := ints_depth ps
    rw [List.map_cons]
    simp only [PyData.depthAll, PyData.depth] at h ⊢
    omega
theorem ints_shaped (ps : List Int) : SeqAt.shaped (.list (ps.map PyData.int)) = true := by
  unfold SeqAt.shaped
  have h := ints_depth ps
  rw [Bool.and_eq_true]
  refine ⟨by rw [PyData.canLay0]; exact ints_lay ps, decide_eq_true ?_⟩
  simp only [PyData.depth]
  omega
theorem ints_eqv (ps : List Int) : PyData.eqv (.list (ps.map PyData.int)) (.list (ps.map PyData.int)) = true := SeqAt.eqv_refl _ (by rw [PyData.canLay0]; exact ints_lay ps)
theorem ints_dp {K : PySem.W.Frag} {H : Hp} : ∀ ps : List Int, DpAll K H (ps.map V.int) (ps.map PyData.int)
  | [] => .nil
  | n :: ps => by
    rw [List.map_cons, List.map_cons]
    exact .cons (.int n) (ints_dp ps)
theorem w_neIs {K : PySem.W.Frag} {H : Hp} {Q : VK} {p r : Addr} {ps qs : List Int} (h1 : SqL K H p (ps.map V.int)) (h2 : SqL K H r (qs.map V.int)) (e : ps = qs) (q : Q (.bl false) H) : rNeD K (.ref p) (.ref r) H Q := by
  subst e
  exact w_neD (.list (ps.map PyData.int)) (.lst h1 (ints_dp ps)) (.lst h2 (ints_dp ps)) (ints_shaped _) (ints_eqv _) q
theorem w_eqIs {K : PySem.W.Frag} {H : Hp} {Q : VK} {p r : Addr} {ps qs : List Int} (h1 : SqL K H p (ps.map V.int)) (h2 : SqL K H r (qs.map V.int)) (e : ps = qs) (q : Q (.bl true) H) : rEqD K (.ref p) (.ref r) H Q := by
  subst e
  exact w_eqD (.list (ps.map PyData.int)) (.lst h1 (ints_dp ps)) (.lst h2 (ints_dp ps)) (ints_shaped _) (ints_eqv _) q
/-- what isinstance asks of the instances of the class at C -/
structure InsTy (K : PySem.W.Frag) (C : Addr) : Prop where
  ha : PySem.W.findIn K (.ref C) "__class__" = some (some (.builtin "object.__class__"))
  hn : PySem.W.specialIn K (.builtin "object.__class__") "__get__" = some (some (.builtin "getset_descriptor.__get__"))
  ht : PySem.W.takesIn K (.builtin "object.__class__") = some true
  hm : PySem.W.mroIn K C (.type "object") = some true
theorem InsTy.ty {K : PySem.W.Frag} {C a dx : Addr} {fs : List (Str × V)} {H : Hp} (i : InsTy K C) (c : Cls K C) (h : H a = some (.ins C dx fs)) : TyX K H (.ref a) (.ref C) := .base (.ins h c i.ha i.hn i.ht i.hm)
theorem kit_own {K : PySem.W.Frag} {t : String} {C : Addr} (h1 : PySem.W.isClsIn K C = true) (h2 : PySem.W.typeIn K (.ref C) = some (.type "type")) (h3 : PySem.W.subIn K (.type t) (.ref C) = some false) : PySem.W.kitOne K (.type t) (.ref C) = some false := by
  unfold PySem.W.kitOne
  rw [if_neg (by simp)]
  show (if ((PySem.W.clsIn K C).isSome && PySem.W.typeIn K (.ref C) == some (.type "type")) = true then PySem.W.subIn K (.type t) (.ref C) else none) = some false
  rw [if_pos (by rw [show (PySem.W.clsIn K C).isSome = true from h1, h2] <;> rfl)]
  exact h3
/-! ### x == y by x's own __eq__, whatever y is -/
structure EqC (K : PySem.W.Frag) (C f : Addr) : Prop where
  at_ : PySem.W.findIn K (.ref C) "__eq__" = some (some (.ref f))
  fn : PySem.W.isFn K (.ref f) = true
def rOwn (K : PySem.W.Frag) (C : Addr) (sp : Sp) (E : XK) : R2 := fun x y H Q => ∃ (a dx : Addr) (fs : List (Str × V)) (t : Value), x = .ref a ∧ H a = some (.ins C dx fs) ∧ TyX K H y t ∧ PySem.W.notFirst K C t = true ∧ sp [x, y] H (fun v H' => ∃ b, v = .bl b ∧ Q v H') E
section
open PySem.Spec PyProof.Rows
theorem op_own {X : Cx} {CX : CXT} {n : Nat} {C f : Addr} {fd : FuncData} {ps : List Str} {sp : Sp} {E : XK} (F : FnOk X.prog X.w X.K X.mg X.base CX n f fd ps sp) (q : EqC X.K C f) (hr : Room n X.A) (hb : Binds X.K fd ps []) (hx : Passes CX X E) : OpR X (compareOp .Eq) (rOwn X.K C sp E) := by
  intro pins s σ H x y v u Q I rx ry h
  obtain ⟨a, dx, fs, t, rfl, ha, ty, hn, hsp⟩ := h
  show wpAny (model X.prog X.w) X.A (richCompare .Eq v u) (EP X pins σ Q) X.xe s
  obtain rfl : v = Value.ref a := rx
  obtain ⟨mA, J, _⟩ := ins_get I.hok ha
  obtain ⟨od, J, _⟩ := J.look
  obtain ⟨m, hF⟩ := I.fr
  obtain ⟨P, Z, p, _⟩ := kit_of I ry ty
  refine PySem.W.cmp_K (op := .Eq) (tb := t) hr.units0 hF I.ok.mod.kin J (Z.ty _ _ I.kIn p) hn q.at_ q.fn ?_
  have hl := F.len _ _ _ _ hsp
  have r2 : Vals [V.ref a, y] [Value.ref a, u] := .cons rfl (.cons ry .nil)
  refine wpAny_call (codeAny_mono (F.run X.A X.stack s H ⟨[.ref a, u], []⟩ [.ref a, u] [.ref a, y] _ E hr I.env0 (by
    have h2 := hb s [.ref a, u] I.kIn (by simpa using hl)
    simpa using h2) r2 hsp) fun r s' hq => ?_)
  cases r with
  | error e => exact hx pins σ H s e s' I hq
  | ok fl =>
    cases fl with
    | ret w =>
      obtain ⟨z, H', I', rz, ⟨b, ez, q⟩⟩ := I.after hq
      subst ez
      cases rz
      exact ⟨.bl b, H', I', rfl, q⟩
    | next => exact False.elim hq
    | brk => exact False.elim hq
    | cont => exact False.elim hq
end
end Toy
namespace Toy
open PySem L2
/-! ## what stands apart: a small logic of places -/
/-- never changed by what is walked -/
def Imm : HO → Bool
  | .tup _ | .xd _ | .rng _ _ | .met _ _ | .own _ => true
  | .frz _ (.lst _) | .frz _ (.tup _) => true
  | _ => false
def Keep (S : Addr → Prop) (H H' : Hp) : Prop := ∀ a o, H a = some o → (S a ∨ Imm o = true) → H' a = some o
theorem Keep.mono {S T : Addr → Prop} {H H' : Hp} (k : Keep T H H') (h : ∀ a, S a → T a) : Keep S H H' := fun a o e q => k a o e (q.imp (h a) id)
structure HA where
  P : Hp → (Addr → Prop) → Prop
  st : ∀ {H H' : Hp} {S : Addr → Prop}, P H S → Keep S H H' → P H' S
  mu : ∀ {H : Hp} {S : Addr → Prop} {a : Addr}, P H S → S a → ∃ o, H a = some o ∧ Imm o = false
def HL : List HA → Hp → (Addr → Prop) → Prop
  | [], _, S => ∀ a, ¬ S a
  | A :: L, H, S => ∃ S1 S2, A.P H S1 ∧ HL L H S2 ∧ (∀ a, S1 a → ¬ S2 a) ∧ ∀ a, S a ↔ S1 a ∨ S2 a
theorem HL.st : ∀ {L : List HA} {H H' : Hp} {S : Addr → Prop}, HL L H S → Keep S H H' → HL L H' S
  | [], _, _, _, h, _ => h
  | A :: L, H, H', S, ⟨S1, S2, h1, h2, hd, hs⟩, k => ⟨S1, S2, A.st h1 (k.mono fun a q => (hs a).mpr (.inl q)), HL.st h2 (k.mono fun a q => (hs a).mpr (.inr q)), hd, hs⟩
theorem HL.mu : ∀ {L : List HA} {H : Hp} {S : Addr → Prop} {a : Addr}, HL L H S → S a → ∃ o, H a = some o ∧ Imm o = false
  | [], _, _, a, h, q => (h a q).elim
  | A :: L, H, S, a, ⟨S1, S2, h1, h2, hd, hs⟩, q => by
    rcases (hs a).mp q with q | q
    · exact A.mu h1 q
    · exact HL.mu h2 q
def Holds (L : List HA) (H : Hp) : Prop := ∃ S, HL L H S
def Ent (L : List HA) (φ : Hp → Prop) : Prop := ∀ H, Holds L H → φ H
def Sub (L M : List HA) : Prop := ∀ H S, HL L H S → ∃ S', HL M H S' ∧ ∀ a, S' a → S a
section
variable {L M N R : List HA} {A B : HA} {φ ψ : Hp → Prop} {H H' : Hp} {S : Addr → Prop}
theorem Sub.refl : Sub L L := fun H S h => ⟨S, h, fun _ q => q⟩
theorem Sub.trans (a : Sub L M) (b : Sub M N) : Sub L N := fun H S h => by
  obtain ⟨S1, h1, q1⟩ := a H S h
  obtain ⟨S2, h2, q2⟩ := b H S1 h1
  exact ⟨S2, h2, fun a q => q1 a (q2 a q)⟩
theorem Sub.cons (a : Sub L M) : Sub (A :: L) (A :: M) := fun H S ⟨S1, S2, h1, h2, hd, hs⟩ => by
  obtain ⟨S3, h3, q3⟩ := a H S2 h2
  refine ⟨fun b => S1 b ∨ S3 b, ⟨S1, S3, h1, h3, fun b q k => hd b q (q3 b k), fun b => Iff.rfl⟩, fun b q => (hs b).mpr (q.imp id (q3 b))⟩
theorem Sub.swap : Sub (A :: B :: L) (B :: A :: L) := fun H S ⟨S1, S2, h1, ⟨S3, S4, h3, h4, hd2, hs2⟩, hd, hs⟩ => by
  refine ⟨S, ⟨S3, fun b => S1 b ∨ S4 b, h3, ⟨S1, S4, h1, h4, fun b q k => hd b q ((hs2 b).mpr (.inr k)), fun b => Iff.rfl⟩, fun b q k => ?_, fun b => ?_⟩, fun _ q => q⟩
  · rcases k with k | k
    · exact hd b k ((hs2 b).mpr (.inl q))
    · exact hd2 b q k
  · rw [hs b, hs2 b]
    constructor
    · rintro (q | q | q)
      · exact .inr (.inl q)
      · exact .inl q
      · exact .inr (.inr q)
    · rintro (q | q | q)
      · exact .inr (.inl q)
      · exact .inl q
      · exact .inr (.inr q)
theorem Sub.drop (a : Sub L M) : Sub (A :: L) M := fun H S ⟨S1, S2, h1, h2, hd, hs⟩ => by
  obtain ⟨S3, h3, q3⟩ := a H S2 h2
  exact ⟨S3, h3, fun b q => (hs b).mpr (.inr (q3 b q))⟩
theorem Sub.nil : Sub L [] := fun H S h => ⟨fun _ => False, fun a q => q, fun a q => q.elim⟩
theorem Sub.to (a : Sub L M) : Holds L H → Holds M H := fun ⟨S, h⟩ => by
  obtain ⟨S1, h1, _⟩ := a H S h
  exact ⟨S1, h1⟩
theorem Ent.sub (a : Sub L M) (e : Ent M φ) : Ent L φ := fun H h => e H (a.to h)
theorem Ent.up (f : ∀ H, φ H → ψ H) (e : Ent L φ) : Ent L ψ := fun H h => f H (e H h)
theorem Holds.go (h : Holds L H) (e : Ent L φ) : φ H := e H h
theorem Ent.pure {p : Prop} (h : p) : Ent L fun _ => p := fun _ _ => h
/-- A is one of L; R the rest -/
def Take (A : HA) (L R : List HA) : Prop := Sub L (A :: R)
theorem take_here : Take A (A :: L) L := Sub.refl
theorem take_there (t : Take A L R) : Take A (B :: L) (B :: R) := (Sub.cons t).trans Sub.swap
theorem Ent.take (t : Take A L R) (e : Ent (A :: R) φ) : Ent L φ := e.sub t
theorem Sub.take (t : Take A L R) (s : Sub R M) : Sub L (A :: M) := Sub.trans t (Sub.cons s)
/-! ### what is made of these -/
def ex {α : Sort _} (F : α → HA) : HA := ⟨fun H S => ∃ x, (F x).P H S, fun ⟨x, h⟩ k => ⟨x, (F x).st h k⟩, fun ⟨x, h⟩ q => (F x).mu h q⟩
def pu (p : Prop) : HA := ⟨fun _ S => p ∧ ∀ a, ¬ S a, fun h _ => h, fun h q => (h.2 _ q).elim⟩
def all (M : List HA) : HA := ⟨fun H S => HL M H S, fun h k => h.st k, fun h q => h.mu q⟩
theorem Ent.ex {α : Sort _} {F : α → HA} (e : ∀ x, Ent (F x :: L) φ) : Ent (ex F :: L) φ := fun H ⟨S, S1, S2, ⟨x, h1⟩, h⟩ => e x H ⟨S, S1, S2, h1, h⟩
theorem Ent.pu {p : Prop} (e : p → Ent L φ) : Ent (pu p :: L) φ := fun H ⟨S, S1, S2, h1, h2, _⟩ => e h1.1 H ⟨S2, h2⟩
theorem Sub.ex {α : Sort _} {F : α → HA} (x : α) (s : Sub L (F x :: M)) : Sub L (ex F :: M) := fun H S h => by
  obtain ⟨S', ⟨S1, S2, h1, h2⟩, q⟩ := s H S h
  exact ⟨S', ⟨S1, S2, ⟨x, h1⟩, h2⟩, q⟩
theorem Sub.pu {p : Prop} (h : p) (s : Sub L M) : Sub L (pu p :: M) := fun H S k => by
  obtain ⟨S', h1, q⟩ := s H S k
  exact ⟨S', ⟨fun _ => False, S', ⟨h, fun _ q => q⟩, h1, fun _ q => q.elim, fun a => ⟨.inr, fun z => z.elim (fun z => z.elim) id⟩⟩, q⟩
theorem HL.app : ∀ {M : List HA} {S : Addr → Prop}, HL (M ++ L) H S ↔ ∃ S1 S2, HL M H S1 ∧ HL L H S2 ∧ (∀ a, S1 a → ¬ S2 a) ∧ ∀ a, S a ↔ S1 a ∨ S2 a
  | [], S => ⟨fun h => ⟨fun _ => False, S, fun _ q => q, h, fun _ q => q.elim, fun a => ⟨.inr, fun z => z.elim (fun z => z.elim) id⟩⟩, fun ⟨S1, S2, h1, h2, _, hs⟩ => by
      have e : S = S2 := funext fun a => propext ⟨fun q => ((hs a).mp q).elim (fun z => (h1 a z).elim) id, fun q => (hs a).mpr (.inr q)⟩
      rw [e]
      exact h2⟩
  | A :: M, S => by
    constructor
    · rintro ⟨S1, S2, h1, h2, hd, hs⟩
      obtain ⟨S3, S4, h3, h4, hd2, hs2⟩ := HL.app.mp h2
      refine ⟨fun a => S1 a ∨ S3 a, S4, ⟨S1, S3, h1, h3, fun a q k => hd a q ((hs2 a).mpr (.inl k)), fun a => Iff.rfl⟩, h4, fun a q k => ?_, fun a => ?_⟩
      · rcases q with q | q
        · exact hd a q ((hs2 a).mpr (.inr k))
        · exact hd2 a q k
      · rw [hs a, hs2 a, or_assoc]
    · rintro ⟨S1, S2, ⟨S3, S4, h3, h4, hd2, hs2⟩, h2, hd, hs⟩
      refine ⟨S3, fun a => S4 a ∨ S2 a, h3, HL.app.mpr ⟨S4, S2, h4, h2, fun a q k => hd a ((hs2 a).mpr (.inr q)) k, fun a => Iff.rfl⟩, fun a q k => ?_, fun a => ?_⟩
      · rcases k with k | k
        · exact hd2 a q k
        · exact hd a ((hs2 a).mpr (.inl q)) k
      · rw [hs a, hs2 a, or_assoc]
theorem Sub.all_e : Sub (all M :: L) (M ++ L) := fun H S h => ⟨S, HL.app.mpr h, fun _ q => q⟩
theorem Sub.all_i : Sub (M ++ L) (all M :: L) := fun H S h => ⟨S, HL.app.mp h, fun _ q => q⟩
theorem Ent.all (e : Ent (M ++ L) φ) : Ent (all M :: L) φ := e.sub Sub.all_e
theorem Sub.all (s : Sub L (M ++ N)) : Sub L (all M :: N) := s.trans Sub.all_i
/-- nothing owned: may be used again and again -/
class Pers (A : HA) : Prop where
  no : ∀ {H : Hp} {S : Addr → Prop} {a : Addr}, A.P H S → ¬ S a
instance {p : Prop} : Pers (pu p) := ⟨fun h q => h.2 _ q⟩
theorem Sub.dup [Pers A] : Sub (A :: L) (A :: A :: L) := fun H S ⟨S1, S2, h1, h2, hd, hs⟩ =>
  ⟨S, ⟨S1, S, h1, ⟨S1, S2, h1, h2, hd, hs⟩, fun a q => (Pers.no h1 q).elim, fun a => ⟨.inr, fun z => z.elim (fun z => (hs a).mpr (.inl z)) id⟩⟩, fun _ q => q⟩
theorem take_p [Pers A] : Take A (A :: L) (A :: L) := Sub.dup
theorem Take.keep [Pers A] (t : Take A L R) : Take A L L := fun H S h => by
  obtain ⟨S1, h1, q1⟩ := t H S h
  obtain ⟨S2, S3, h2, _⟩ := h1
  exact ⟨S, ⟨S2, S, h2, h, fun a q => (Pers.no h2 q).elim, fun a => ⟨.inr, fun z => z.elim (fun z => (Pers.no h2 z).elim) id⟩⟩, fun _ q => q⟩
/-! ### places -/
def pt (a : Addr) (o : HO) : HA := ⟨fun H S => H a = some o ∧ Imm o = false ∧ ∀ b, S b ↔ b = a, fun ⟨h, i, s⟩ k => ⟨k a o h (.inl ((s a).mpr rfl)), i, s⟩, fun ⟨h, i, s⟩ q => by
  rw [(s _).mp q]
  exact ⟨o, h, i⟩⟩
/-- one of the things that never change -/
def im (a : Addr) (o : HO) : HA := ⟨fun H S => H a = some o ∧ Imm o = true ∧ ∀ b, ¬ S b, fun ⟨h, i, s⟩ k => ⟨k a o h (.inr i), i, s⟩, fun ⟨_, _, s⟩ q => (s _ q).elim⟩
instance {a : Addr} {o : HO} : Pers (im a o) := ⟨fun h q => h.2.2 _ q⟩
abbrev tu (a : Addr) (xs : List V) : HA := im a (.tup xs)
variable {a p : Addr} {o u : HO}
theorem Holds.pt_get : Holds (pt a o :: L) H → H a = some o := fun ⟨_, _, _, h, _⟩ => h.1
theorem Holds.im_get : Holds (im a o :: L) H → H a = some o := fun ⟨_, _, _, h, _⟩ => h.1
theorem Take.pt (t : Take (pt a o) L R) (h : Holds L H) : H a = some o := (t.to h).pt_get
theorem Take.im (t : Take (im a o) L R) (h : Holds L H) : H a = some o := (t.to h).im_get
theorem Holds.upd (h : Holds (pt a o :: R) H) (hi : Imm u = false) : Holds (pt a u :: R) (upd H a u) := by
  obtain ⟨S, S1, S2, ⟨h1, i1, s1⟩, h2, hd, hs⟩ := h
  refine ⟨S, S1, S2, ⟨upd_same, hi, s1⟩, h2.st fun b ob e q => ?_, hd, hs⟩
  have n : b ≠ a := by
    rintro rfl
    rcases q with q | q
    · exact hd b ((s1 b).mpr rfl) q
    · rw [h1] at e
      cases e
      rw [i1] at q
      cases q
  rw [upd_ne n]
  exact e
theorem HL.free (h : HL L H S) (n : H p = none) (o : HO) : HL L (L2.upd H p o) S := h.st fun b ob e _ => by
  rw [upd_ne (ne_of_none e n)]
  exact e
theorem Holds.new (h : Holds L H) (n : H p = none) (hi : Imm o = false) : Holds (pt p o :: L) (L2.upd H p o) := by
  obtain ⟨S, h⟩ := h
  refine ⟨fun b => b = p ∨ S b, fun b => b = p, S, ⟨upd_same, hi, fun b => Iff.rfl⟩, h.free n o, fun b e q => ?_, fun b => Iff.rfl⟩
  subst e
  obtain ⟨o', e, _⟩ := h.mu q
  rw [n] at e
  cases e
theorem Holds.newI (h : Holds L H) (n : H p = none) (hi : Imm o = true) : Holds (im p o :: L) (L2.upd H p o) := by
  obtain ⟨S, h⟩ := h
  exact ⟨S, fun _ => False, S, ⟨upd_same, hi, fun b q => q⟩, h.free n o, fun b e q => e, fun b => ⟨.inr, fun z => z.elim (fun z => z.elim) id⟩⟩
/-- more stands -/
theorem Holds.same (h : Holds L H) (s : Same H H') : Holds L H' := by
  obtain ⟨S, h⟩ := h
  exact ⟨S, h.st fun b o e _ => s b o e⟩
theorem Holds.addI (h : Holds L H) (e : H p = some o) (hi : Imm o = true) : Holds (im p o :: L) H := by
  obtain ⟨S, h⟩ := h
  exact ⟨S, fun _ => False, S, ⟨e, hi, fun b q => q⟩, h, fun b e q => e, fun b => ⟨.inr, fun z => z.elim (fun z => z.elim) id⟩⟩
end
end Toy
namespace Toy
open PySem L2
/-! ### lists and tuples that are read -/
def sq (K : PySem.W.Frag) (a : Addr) (xs : List V) : HA := ⟨fun H S => (pt a (.lst xs)).P H S ∨ ((∃ o, H a = some (.frz o (.lst xs))) ∨ ∃ (o : Obj) (its : Array Value) (n : Nat), K.lookup a = some o ∧ o.cls = .type "list" ∧ o.dict = none ∧ o.data = .seq its n ∧ its.size ≤ sizeLine ∧ Vals xs its.toList) ∧ ∀ b, ¬ S b,
  fun h k => by
    rcases h with h | ⟨⟨o, h⟩ | h, s⟩
    · exact .inl ((pt a (.lst xs)).st h k)
    · exact .inr ⟨.inl ⟨o, k a _ h (.inr rfl)⟩, s⟩
    · exact .inr ⟨.inr h, s⟩, fun h q => by
    rcases h with h | ⟨_, s⟩
    · exact (pt a (.lst xs)).mu h q
    · exact (s _ q).elim⟩
def tq (K : PySem.W.Frag) (a : Addr) (xs : List V) : HA := ⟨fun H S => SqT K H a xs ∧ ∀ b, ¬ S b, fun ⟨h, s⟩ k => ⟨by
    rcases h with (h | ⟨o, h⟩) | h
    · exact .inl (.inl (k a _ h (.inr rfl)))
    · exact .inl (.inr ⟨o, k a _ h (.inr rfl)⟩)
    · exact .inr h, s⟩, fun ⟨_, s⟩ q => (s _ q).elim⟩
instance {K : PySem.W.Frag} {a : Addr} {xs : List V} : Pers (tq K a xs) := ⟨fun h q => h.2 _ q⟩
/-- xs is read at a wherever L stands -/
def HasL (K : PySem.W.Frag) (L : List HA) (a : Addr) (xs : List V) : Prop := ∀ H, Holds L H → SqL K H a xs
def HasT (K : PySem.W.Frag) (L : List HA) (a : Addr) (xs : List V) : Prop := ∀ H, Holds L H → SqT K H a xs
section
variable {K : PySem.W.Frag} {L M R : List HA} {A B : HA} {σ τ : St} {Q : VK} {D : Ends} {nx bk ct : St → Hp → Prop} {rt : VK} {v x y : V} {te ta tb tc to ti : TE} {t u : TS} {c d : TT} {a b p l : Addr} {xs ys zs : List V} {f : Str} {C dx : Addr} {fs : List (Str × V)} {tas tk : TA}
theorem hasL_pt (h : Take (pt a (.lst xs)) L R) : HasL K L a xs := fun _ q => SqL.of (h.pt q)
theorem hasL_sq (h : Take (sq K a xs) L R) : HasL K L a xs := fun H q => by
  obtain ⟨S, S1, S2, h1, _⟩ := h.to q
  rcases h1 with h | ⟨⟨o, h⟩ | h, s⟩
  · exact SqL.of h.1
  · exact .inl (.inr ⟨o, h⟩)
  · exact .inr h
theorem hasT_tu (h : Take (tu a xs) L R) : HasT K L a xs := fun _ q => SqT.of (h.im q)
theorem hasT_tq (h : Take (tq K a xs) L R) : HasT K L a xs := fun H q => by
  obtain ⟨S, S1, S2, h1, _⟩ := h.to q
  exact h1.1
theorem holds_sq {H : Hp} (h : SqL K H a xs) : Holds [sq K a xs] H := by
  rcases h with (h | ⟨o, h⟩) | h
  · exact ⟨fun b => b = a, fun b => b = a, fun _ => False, .inl ⟨h, rfl, fun b => Iff.rfl⟩, fun _ q => q, fun _ _ q => q, fun b => ⟨.inl, fun z => z.elim id False.elim⟩⟩
  · exact ⟨fun _ => False, fun _ => False, fun _ => False, .inr ⟨.inl ⟨o, h⟩, fun _ q => q⟩, fun _ q => q, fun _ _ q => q, fun b => ⟨.inl, fun z => z.elim id id⟩⟩
  · exact ⟨fun _ => False, fun _ => False, fun _ => False, .inr ⟨.inr h, fun _ q => q⟩, fun _ q => q, fun _ _ q => q, fun b => ⟨.inl, fun z => z.elim id id⟩⟩
theorem holds_nil {H : Hp} : Holds [] H := ⟨fun _ => False, fun _ q => q⟩
/-! ### rules by the written part's name; readings with names -/
section
variable {X : Cx}
theorem cxOf_K {CX : CXT} {P : Program} {w : World} {mg : Str → Option Value} {base : Heap} {N : List Str} {qual : Str} {scope : Scope} {f : Addr} {cd : Value} {A : Around} {outer : List Env} {s : Shared} {H : Hp} {E : XK} : (cxOf CX P w K mg base N qual scope f cd A outer s H E).K = K := rfl
def rLenK (K : PySem.W.Frag) : List V → Hp → VK → Prop := fun xs H Q => ∃ p ys, xs = [.ref p] ∧ (SqL K H p ys ∨ SqT K H p ys) ∧ Q (.int ys.length) H
theorem call_lenK (h : X.K = K := by rfl) : CallR X (.builtin "len") (rLenK K) := h ▸ call_len_seq
def rListK (K : PySem.W.Frag) : List V → Hp → VK → Prop := fun xs H Q => ∃ p ys, xs = [.ref p] ∧ (SqL K H p ys ∨ SqT K H p ys) ∧ ∀ l, H l = none → Q (.ref l) (upd H l (.lst ys))
theorem call_listK (h : X.K = K := by rfl) : CallR X (.type "list") (rListK K) := h ▸ call_list_of
def rTupK (K : PySem.W.Frag) : List V → Hp → VK → Prop := fun xs H Q => ∃ p ys, xs = [.ref p] ∧ ((SqL K H p ys ∧ ∀ l, H l = none → Q (.ref l) (upd H l (.tup ys))) ∨ (SqT K H p ys ∧ Q (.ref p) H))
theorem call_tupK (h : X.K = K := by rfl) : CallR X (.type "tuple") (rTupK K) := h ▸ call_tuple_of
def rDivK : List V → Hp → VK → Prop := fun xs H Q => ∃ i j, xs = [.int i, .int j] ∧ CDiv i j ∧ ∀ p, H p = none → Q (.ref p) (upd H p (.tup [.int (i / j), .int (i % j)]))
theorem call_divK : CallR X (.builtin "divmod") rDivK := call_divmod
end
def kNewT (Q : VK) (xs : List V) (H : Hp) : Prop := xs.length ≤ sizeLine ∧ ∀ p, H p = none → Q (.ref p) (upd H p (.tup xs))
def kNewL (Q : VK) (xs : List V) (H : Hp) : Prop := xs.length ≤ sizeLine ∧ ∀ p, H p = none → Q (.ref p) (upd H p (.lst xs))
def kRgL (Q : VK) (a b : Int) (H : Hp) : Prop := RgOk a b ∧ ∀ q, H q = none → Q (.ref q) (upd H q (.lst (rgV a b)))
def kRgT (Q : VK) (a b : Int) (H : Hp) : Prop := RgOk a b ∧ ∀ q, H q = none → Q (.ref q) (upd H q (.tup (rgV a b)))
def kMake (C : Addr) (sp : Sp) (E : XK) (Q : VK) (vs : List V) (H : Hp) : Prop := ∀ x dx, H x = none → H dx = none → dx ≠ x → sp (.ref x :: vs) (upd (upd H dx (.own x)) x (.ins C dx [])) (fun v H2 => v = .non ∧ Q (.ref x) H2) E
def kMakeK (C : Addr) (j l : Nat) (sp : Sp) (gV : List V → List V → List V) (E : XK) (Q : VK) (vs zs : List V) (H : Hp) : Prop := vs.length = j ∧ zs.length = l ∧ ∀ x dx, H x = none → H dx = none → dx ≠ x → sp (gV (.ref x :: vs) zs) (upd (upd H dx (.own x)) x (.ins C dx [])) (fun v H2 => v = .non ∧ Q (.ref x) H2) E
/-! ### which kind of reading stands -/
theorem gS {t : TS} {D : Ends} (q : Ent L fun H => t D σ H) : Ent L fun H => t D σ H := q
theorem gE {t : TE} (q : Ent L fun H => t σ H Q) : Ent L fun H => t σ H Q := q
theorem gT {t : TT} {Q : Bool → Hp → Prop} (q : Ent L fun H => t σ H Q) : Ent L fun H => t σ H Q := q
theorem gA {t : TA} {Q : List V → Hp → Prop} (q : Ent L fun H => t σ H Q) : Ent L fun H => t σ H Q := q
theorem gR {r : R2} (q : Ent L fun H => r x y H Q) : Ent L fun H => r x y H Q := q
theorem gC {r : List V → Hp → VK → Prop} (q : Ent L fun H => r xs H Q) : Ent L fun H => r xs H Q := q
theorem gM {r : V → List V → Hp → VK → Prop} (q : Ent L fun H => r x xs H Q) : Ent L fun H => r x xs H Q := q
theorem gX {α : Sort _} {p : α → Hp → Prop} (q : Ent L fun H => ∃ x, p x H) : Ent L fun H => ∃ x, p x H := q
theorem gI {c : Prop} [Decidable c] {φ ψ : Hp → Prop} (q : Ent L fun H => if c then φ H else ψ H) : Ent L fun H => if c then φ H else ψ H := q
theorem gN {p : Prop} {φ : Hp → Prop} (q : Ent L fun H => p ∧ φ H) : Ent L fun H => p ∧ φ H := q
theorem gG {v : V} {t : TG} {Q : St → Hp → Prop} (q : Ent L fun H => t v σ H Q) : Ent L fun H => t v σ H Q := q
/-! ### steps that change nothing -/
theorem e_in {N : List Str} {vs : List V} (h : start N vs = σ) (q : Ent L fun H => t D σ H) : Ent L fun H => t D (start N vs) H := by rw [h]; exact q
theorem e_var {i : Nat} (h : σ[i]? = some (some v)) (q : Ent L fun H => Q v H) : Ent L fun H => tVar i σ H Q := fun H hH => ⟨v, h, q H hH⟩
theorem e_c (q : Ent L fun H => Q v H) : Ent L fun H => tC v σ H Q := q
theorem e_op {r : R2} (q : Ent L fun H => ta σ H fun x H1 => tb σ H1 fun y H2 => r x y H2 Q) : Ent L fun H => tOp r ta tb σ H Q := q
theorem e_un {r : V → Hp → VK → Prop} (q : Ent L fun H => ta σ H fun x H1 => r x H1 Q) : Ent L fun H => tUn r ta σ H Q := q
theorem e_I0 {g : Int → Int → V} {i j : Int} (q : Ent L fun H => Q (g i j) H) : Ent L fun H => rI0 g (.int i) (.int j) H Q := fun H h => ⟨i, j, rfl, rfl, q H h⟩
theorem e_I {C : Int → Int → Prop} {g : Int → Int → V} {i j : Int} (hc : C i j) (q : Ent L fun H => Q (g i j) H) : Ent L fun H => rI C g (.int i) (.int j) H Q := fun H h => ⟨i, j, rfl, rfl, hc, q H h⟩
theorem e_U {g : Int → V} {i : Int} (q : Ent L fun H => Q (g i) H) : Ent L fun H => rU g (.int i) H Q := fun H h => ⟨i, rfl, q H h⟩
theorem e_eq (h : scal x y = true) (q : Ent L fun H => Q (.bl (decide (x = y))) H) : Ent L fun H => rEq x y H Q := fun H k => ⟨h, q H k⟩
theorem e_eqII {i j : Int} (q : Ent L fun H => Q (.bl (decide (i = j))) H) : Ent L fun H => rEq (.int i) (.int j) H Q := fun H k => ⟨rfl, by rw [dec_vint]; exact q H k⟩
theorem e_neII {i j : Int} (q : Ent L fun H => Q (.bl (!decide (i = j))) H) : Ent L fun H => rNe (.int i) (.int j) H Q := fun H k => ⟨rfl, by rw [dec_vint]; exact q H k⟩
theorem e_ne (h : scal x y = true) (q : Ent L fun H => Q (.bl (!decide (x = y))) H) : Ent L fun H => rNe x y H Q := fun H k => ⟨h, q H k⟩
theorem e_cb {r : List V → Hp → VK → Prop} (q : Ent L fun H => tas σ H fun vs H1 => r vs H1 Q) : Ent L fun H => tCB r tas σ H Q := q
theorem e_nil {Q : List V → Hp → Prop} (q : Ent L fun H => Q [] H) : Ent L fun H => tNil σ H Q := q
theorem e_cons {Q : List V → Hp → Prop} (q : Ent L fun H => ta σ H fun x H1 => tas σ H1 fun xs H2 => Q (x :: xs) H2) : Ent L fun H => tCons ta tas σ H Q := q
theorem e_call {sp : Sp} {dvs : List V} {E : XK} (q : Ent L fun H => tas σ H fun vs H1 => sp (vs ++ dvs) H1 Q E) : Ent L fun H => tCall sp dvs E tas σ H Q := q
theorem e_callS {sp : Sp} {E : St → XK} (q : Ent L fun H => tas σ H fun vs H1 => sp vs H1 Q (E σ)) : Ent L fun H => tCallS sp E tas σ H Q := q
theorem e_callN {j l : Nat} {sp : Sp} {gV : List V → List V → List V} {E : XK} (q : Ent L fun H => tas σ H fun vs H1 => tk σ H1 fun zs H2 => vs.length = j ∧ zs.length = l ∧ sp (gV vs zs) H2 Q E) : Ent L fun H => tCallN j l sp gV E tas tk σ H Q := q
theorem e_methN {C : Addr} {m : Str} {j l : Nat} {sp : Sp} {gV : List V → List V → List V} {E : XK} (q : Ent L fun H => ta σ H fun x H1 => ∃ a dx fs, x = .ref a ∧ H1 a = some (.ins C dx fs) ∧ fs.lookup m = none ∧ tas σ H1 fun vs H2 => tk σ H2 fun zs H3 => vs.length = j ∧ zs.length = l ∧ sp (gV (x :: vs) zs) H3 Q E) : Ent L fun H => tMethN C m j l sp gV E ta tas tk σ H Q := q
theorem e_methS {C : Addr} {m : Str} {sp : Sp} {E : St → XK} (q : Ent L fun H => ta σ H fun x H1 => ∃ a dx fs, x = .ref a ∧ H1 a = some (.ins C dx fs) ∧ fs.lookup m = none ∧ tas σ H1 fun vs H2 => sp (x :: vs) H2 Q (E σ)) : Ent L fun H => tMethSx C m sp E ta tas σ H Q := q
theorem e_ln {α : Type} {xs : List α} {n : Nat} {φ : Hp → Prop} (h : xs.length = n) (q : Ent L φ) : Ent L fun H => xs.length = n ∧ φ H := fun H k => ⟨h, q H k⟩
theorem e_meth0 {C : Addr} {m : Str} {sp : Sp} {dvs : List V} {E : XK} (q : Ent L fun H => ta σ H fun x H1 => ∃ a dx fs, x = .ref a ∧ H1 a = some (.ins C dx fs) ∧ fs.lookup m = none ∧ tas σ H1 fun vs H2 => sp (x :: (vs ++ dvs)) H2 Q E) : Ent L fun H => tMeth C m sp dvs E ta tas σ H Q := q
theorem e_meth {φ : Hp → Prop} {m : Str} (h : Take (pt a (.ins C dx fs)) L R) (hl : fs.lookup m = none) (q : Ent L φ) : Ent L fun H => ∃ a' dx fs, V.ref a = .ref a' ∧ H a' = some (.ins C dx fs) ∧ fs.lookup m = none ∧ φ H := fun H k => ⟨a, dx, fs, rfl, h.pt k, hl, q H k⟩
theorem e_prop0 {C : Addr} {sp : Sp} {dvs : List V} {E : XK} (q : Ent L fun H => ta σ H fun x H1 => ∃ a dx fs, x = .ref a ∧ H1 a = some (.ins C dx fs) ∧ sp (.ref a :: dvs) H1 Q E) : Ent L fun H => tProp C sp dvs E ta σ H Q := q
theorem e_prop {sp : Sp} {dvs : List V} {E : XK} (h : Take (pt a (.ins C dx fs)) L R) (q : Ent L fun H => sp (.ref a :: dvs) H Q E) : Ent L fun H => ∃ a' dx fs, V.ref a = .ref a' ∧ H a' = some (.ins C dx fs) ∧ sp (.ref a' :: dvs) H Q E := fun H k => ⟨a, dx, fs, rfl, h.pt k, q H k⟩
theorem e_seq (q : Ent L fun H => t ⟨u ⟨nx, rt, bk, ct⟩, rt, bk, ct⟩ σ H) : Ent L fun H => tSeq t u ⟨nx, rt, bk, ct⟩ σ H := q
theorem e_next (q : Ent L fun H => nx σ H) : Ent L fun H => tNext ⟨nx, rt, bk, ct⟩ σ H := q
theorem e_brk (q : Ent L fun H => bk σ H) : Ent L fun H => tBreak ⟨nx, rt, bk, ct⟩ σ H := q
theorem e_cont (q : Ent L fun H => ct σ H) : Ent L fun H => tCont ⟨nx, rt, bk, ct⟩ σ H := q
theorem e_drop (q : Ent L fun H => te σ H fun _ H1 => nx σ H1) : Ent L fun H => tDrop te ⟨nx, rt, bk, ct⟩ σ H := q
theorem e_ret (q : Ent L fun H => te σ H rt) : Ent L fun H => tRet te ⟨nx, rt, bk, ct⟩ σ H := q
theorem e_retN (q : Ent L fun H => rt .non H) : Ent L fun H => tRetN ⟨nx, rt, bk, ct⟩ σ H := q
theorem e_asg {g : TG} (q : Ent L fun H => te σ H fun x H1 => g x σ H1 nx) : Ent L fun H => tAsg te g ⟨nx, rt, bk, ct⟩ σ H := q
theorem e_ifs (q : Ent L fun H => c σ H fun b H1 => if b = true then t ⟨nx, rt, bk, ct⟩ σ H1 else u ⟨nx, rt, bk, ct⟩ σ H1) : Ent L fun H => tIfS c t u ⟨nx, rt, bk, ct⟩ σ H := q
theorem e_par {i j : Nat} (q : Ent L fun H => tas σ H fun vs H1 => ∃ v w, vs = [v, w] ∧ nx ((σ.set i (some v)).set j (some w)) H1) : Ent L fun H => tPar i j tas ⟨nx, rt, bk, ct⟩ σ H := q
theorem e_par3 {i j l : Nat} (q : Ent L fun H => tas σ H fun vs H1 => ∃ u v w, vs = [u, v, w] ∧ nx (((σ.set i (some u)).set j (some v)).set l (some w)) H1) : Ent L fun H => tPar3 i j l tas ⟨nx, rt, bk, ct⟩ σ H := q
theorem e_uvw {u v w : V} {r : V → V → V → Hp → Prop} (q : Ent L (r u v w)) : Ent L fun H => ∃ u' v' w', [u, v, w] = [u', v', w'] ∧ r u' v' w' H := fun H k => ⟨u, v, w, rfl, q H k⟩
theorem e_vw {v w : V} {r : V → V → Hp → Prop} (q : Ent L (r v w)) : Ent L fun H => ∃ v' w', [v, w] = [v', w'] ∧ r v' w' H := fun H k => ⟨v, w, rfl, q H k⟩
theorem e_if0 (q : Ent L fun H => c σ H fun b H1 => if b = true then ta σ H1 Q else tb σ H1 Q) : Ent L fun H => tIf c ta tb σ H Q := q
theorem e_test {Q : Bool → Hp → Prop} (q : Ent L fun H => te σ H fun x H' => ∃ k, x = .bl k ∧ Q k H') : Ent L fun H => tTest te σ H Q := q
theorem e_B {Q : Bool → Hp → Prop} (q : Ent L fun H => te σ H fun x H' => ∃ k, x = .bl k ∧ Q k H') : Ent L fun H => tB te σ H Q := q
theorem e_and {Q : Bool → Hp → Prop} (q : Ent L fun H => c σ H fun b H1 => if b = true then d σ H1 Q else Q false H1) : Ent L fun H => tAnd c d σ H Q := q
theorem e_or {Q : Bool → Hp → Prop} (q : Ent L fun H => c σ H fun b H1 => if b = true then Q true H1 else d σ H1 Q) : Ent L fun H => tOr c d σ H Q := q
theorem e_not {Q : Bool → Hp → Prop} (q : Ent L fun H => c σ H fun b H1 => Q (!b) H1) : Ent L fun H => tNot c σ H Q := q
theorem e_andV (q : Ent L fun H => ta σ H fun x H1 => ∃ k, x = .bl k ∧ if k = true then tb σ H1 Q else Q (.bl false) H1) : Ent L fun H => tAndV ta tb σ H Q := q
theorem e_orV (q : Ent L fun H => ta σ H fun x H1 => ∃ k, x = .bl k ∧ if k = true then Q (.bl true) H1 else tb σ H1 Q) : Ent L fun H => tOrV ta tb σ H Q := q
theorem e_notV (q : Ent L fun H => ta σ H fun x H1 => ∃ k, x = .bl k ∧ Q (.bl (!k)) H1) : Ent L fun H => tNotV ta σ H Q := q
theorem e_bl {b : Bool} {r : Bool → Hp → Prop} (q : Ent L (r b)) : Ent L fun H => ∃ k, V.bl b = .bl k ∧ r k H := fun H k => ⟨b, rfl, q H k⟩
theorem e_iI {i : Int} {r : Int → Hp → Prop} (q : Ent L (r i)) : Ent L fun H => ∃ k, [V.int i] = [.int k] ∧ r k H := fun H k => ⟨i, rfl, q H k⟩
theorem e_iIJ {i j : Int} {r : Int → Int → Hp → Prop} (q : Ent L (r i j)) : Ent L fun H => ∃ k l, [V.int i, V.int j] = [.int k, .int l] ∧ r k l H := fun H k => ⟨i, j, rfl, q H k⟩
theorem e_ei {i : Int} {r : Int → Hp → Prop} (q : Ent L (r i)) : Ent L fun H => ∃ k, V.int i = .int k ∧ r k H := fun H k => ⟨i, rfl, q H k⟩
theorem e_eij {i j : Int} {r : Int → Int → Hp → Prop} (q : Ent L (r i j)) : Ent L fun H => ∃ k l, V.int i = .int k ∧ V.int j = .int l ∧ r k l H := fun H k => ⟨i, j, rfl, rfl, q H k⟩
theorem e_int1 {i : Int} {r : Int → Hp → Prop} {s : Bool → Hp → Prop} (q : Ent L (r i)) : Ent L fun H => (∃ k, [V.int i] = [.int k] ∧ r k H) ∨ ∃ b, [V.int i] = [.bl b] ∧ s b H := fun H k => .inl ⟨i, rfl, q H k⟩
theorem e_intB {b : Bool} {r : Int → Hp → Prop} {s : Bool → Hp → Prop} (q : Ent L (s b)) : Ent L fun H => (∃ k, [V.bl b] = [.int k] ∧ r k H) ∨ ∃ c, [V.bl b] = [.bl c] ∧ s c H := fun H k => .inr ⟨b, rfl, q H k⟩
theorem e_lenL (h : HasL K L a xs) (q : Ent L (Q (.int xs.length))) : Ent L fun H => rLenK K [.ref a] H Q := fun H k => ⟨a, xs, rfl, .inl (h H k), q H k⟩
theorem e_lenT (h : HasT K L a xs) (q : Ent L (Q (.int xs.length))) : Ent L fun H => rLenK K [.ref a] H Q := fun H k => ⟨a, xs, rfl, .inr (h H k), q H k⟩
theorem e_gname {i : Nat} {Q : St → Hp → Prop} (q : Ent L fun H => Q (σ.set i (some v)) H) : Ent L fun H => gName i v σ H Q := q
theorem e_gtup {n : Nat} {ts : TGs} {Q : St → Hp → Prop} (h : HasT K L a xs) (hn : xs.length = n) (q : Ent L fun H => ts xs σ H Q) : Ent L fun H => gTup K n ts (.ref a) σ H Q := fun H k => ⟨a, xs, rfl, h H k, hn, q H k⟩
theorem e_gcons {tg : TG} {ts : TGs} {r : List V} {Q : St → Hp → Prop} (q : Ent L fun H => tg v σ H fun σ' H' => ts r σ' H' Q) : Ent L fun H => gCons tg ts (v :: r) σ H Q := fun H k => ⟨v, r, rfl, q H k⟩
theorem e_gnil {Q : St → Hp → Prop} (q : Ent L fun H => Q σ H) : Ent L fun H => gNil [] σ H Q := fun H k => ⟨rfl, q H k⟩
theorem e_gsub {ts : TSet} {Q : St → Hp → Prop} (q : Ent L fun H => to σ H fun o H1 => ti σ H1 fun i H2 => ts o i v H2 fun H3 => Q σ H3) : Ent L fun H => gSub to ti ts v σ H Q := q
theorem e_fld0 (q : Ent L fun H => ta σ H fun x H1 => kFld K f Q x H1) : Ent L fun H => tFld K ta f σ H Q := q
theorem e_fld (h : Take (pt a (.ins C dx fs)) L R) (hc : Cls K C) (hn : NoAttr K C f) (hl : fs.lookup f = some v) (q : Ent L fun H => Q v H) : Ent L fun H => kFld K f Q (.ref a) H := fun H k => ⟨a, C, dx, fs, v, rfl, h.pt k, hc, hn, hl, q H k⟩
theorem e_sfld0 (q : Ent L fun H => tb σ H fun y H1 => ta σ H1 fun x H2 => kSF K f nx σ y x H2) : Ent L fun H => sFld K ta tb f ⟨nx, rt, bk, ct⟩ σ H := q
theorem e_ixL {i : Int} (h : HasL K L a xs) (hi : atI xs i = some v) (q : Ent L fun H => Q v H) : Ent L fun H => rIxL K (.ref a) (.int i) H Q := fun H k => ⟨a, xs, i, v, rfl, rfl, h H k, hi, q H k⟩
theorem e_ixT {i : Int} (h : HasT K L a xs) (hi : atI xs i = some v) (q : Ent L fun H => Q v H) : Ent L fun H => rIxT K (.ref a) (.int i) H Q := fun H k => ⟨a, xs, i, v, rfl, rfl, h H k, hi, q H k⟩
theorem e_bm {T : String} {r : V → List V → Hp → VK → Prop} (h : Ent L fun H => to σ H fun x H1 => tyV K T x H1 ∧ tas σ H1 fun xs H2 => r x xs H2 Q) : Ent L fun H => tBM K T r to tas σ H Q := h
theorem e_bm0 {T : String} {r : V → List V → Hp → VK → Prop} (h : Ent L fun H => to σ H fun x H1 => tyV K T x H1 ∧ r x [] H1 Q) : Ent L fun H => tBM0 K T r to σ H Q := h
theorem e_tyL {φ : Hp → Prop} (h : HasL K L a xs) (q : Ent L φ) : Ent L fun H => tyV K "list" (.ref a) H ∧ φ H := fun H k => ⟨.inl ⟨rfl, xs, h H k⟩, q H k⟩
theorem e_chain {r r' : R2} (q : Ent L fun H => ta σ H fun x H1 => tb σ H1 fun y H2 => r x y H2 fun z H3 => ∃ k, z = .bl k ∧ (if k = true then tc σ H3 fun w' H4 => r' y w' H4 Q else Q (.bl false) H3)) : Ent L fun H => tChain r r' ta tb tc σ H Q := q
theorem e_sl {r : V → Option Int → Option Int → Hp → VK → Prop} {tl th : TO} (q : Ent L fun H => te σ H fun x H1 => tl σ H1 fun l H2 => th σ H2 fun u H3 => r x l u H3 Q) : Ent L fun H => tSl r te tl th σ H Q := q
theorem e_nopart {Q : Option Int → Hp → Prop} (q : Ent L fun H => Q none H) : Ent L fun H => tNoPart σ H Q := q
theorem e_part {Q : Option Int → Hp → Prop} (q : Ent L fun H => te σ H fun x H1 => ∃ i, x = .int i ∧ Q (some i) H1) : Ent L fun H => tPart te σ H Q := q
theorem e_inL {neg : Bool} {x : V} (h : HasL K L a xs) (h1 : flatV x = true) (h2 : xs.all flatV = true) (q : Ent L fun H => Q (.bl (if neg then !inV x xs else inV x xs)) H) : Ent L fun H => rIn K neg x (.ref a) H Q := fun H k => ⟨a, xs, rfl, .inl (h H k), h1, h2, q H k⟩
theorem e_inT {neg : Bool} {x : V} (h : HasT K L a xs) (h1 : flatV x = true) (h2 : xs.all flatV = true) (q : Ent L fun H => Q (.bl (if neg then !inV x xs else inV x xs)) H) : Ent L fun H => rIn K neg x (.ref a) H Q := fun H k => ⟨a, xs, rfl, .inr (h H k), h1, h2, q H k⟩
theorem e_yes {Q : Bool → Hp → Prop} (q : Ent L fun H => Q true H) : Ent L fun H => tYes σ H Q := q
theorem e_ea {σ2 : L2.St} {vs : List Nat} {φ : Hp → Prop} (h : wipe σ2 vs = wipe σ vs) (q : Ent L φ) : Ent L fun H => wipe σ2 vs = wipe σ vs ∧ φ H := fun H k => ⟨h, q H k⟩
theorem e_isN (q : Ent L fun H => Q (.bl (decide (x = .non))) H) : Ent L fun H => Q (.bl (decide (x = .non))) H := q
theorem e_cut (M : List HA) (τ : St) (q : Ent L fun H => t ⟨fun σ' H' => σ' = τ ∧ Holds M H', rt, bk, ct⟩ σ H) (k : Ent M fun H => u ⟨nx, rt, bk, ct⟩ τ H) : Ent L fun H => Evl.tCut t u ⟨nx, rt, bk, ct⟩ σ H := fun H h =>
  ⟨_, q H h, fun σ' H' ⟨e, z⟩ => by subst e; exact k H' z⟩
theorem e_cutS (M : List HA) (q : Ent L fun H => t ⟨fun σ' H' => σ' = σ ∧ Holds M H', rt, bk, ct⟩ σ H) (k : Ent M fun H => u ⟨nx, rt, bk, ct⟩ σ H) : Ent L fun H => Evl.tCut t u ⟨nx, rt, bk, ct⟩ σ H := e_cut M σ q k
/-- ways joined behind a statement: by what is known of the slots and places -/
theorem e_cutB {β : Type} (sg : β → St) (M : β → List HA) (q : Ent L fun H => t ⟨fun σ' H' => ∃ b, σ' = sg b ∧ Holds (M b) H', rt, bk, ct⟩ σ H) (k : ∀ b, Ent (M b) fun H => u ⟨nx, rt, bk, ct⟩ (sg b) H) : Ent L fun H => Evl.tCut t u ⟨nx, rt, bk, ct⟩ σ H := fun H h =>
  ⟨_, q H h, fun σ' H' ⟨b, e, z⟩ => by subst e; exact k b H' z⟩
theorem e_end {β : Type} {sg : β → St} {M : β → List HA} (b : β) (h : σ = sg b) (s : Sub L (M b)) : Ent L fun H => ∃ b, σ = sg b ∧ Holds (M b) H := fun H q => ⟨b, h, s.to q⟩
theorem e_end1 (h : σ = τ) (s : Sub L M) : Ent L fun H => σ = τ ∧ Holds M H := fun H q => ⟨h, s.to q⟩
theorem e_holds (s : Sub L M) : Ent L (Holds M) := fun H q => s.to q
/-! ### tests -/
theorem eT {φ ψ : Hp → Prop} (q : Ent L φ) : Ent L fun H => if true = true then φ H else ψ H := fun H k => iteT (q H k)
theorem eF {φ ψ : Hp → Prop} (q : Ent L ψ) : Ent L fun H => if false = true then φ H else ψ H := fun H k => iteF (q H k)
theorem eNT {φ ψ : Hp → Prop} (q : Ent L ψ) : Ent L fun H => if (!true) = true then φ H else ψ H := fun H k => iteNT (q H k)
theorem eNF {φ ψ : Hp → Prop} (q : Ent L φ) : Ent L fun H => if (!false) = true then φ H else ψ H := fun H k => iteNF (q H k)
theorem eDT {c : Prop} [Decidable c] {φ ψ : Hp → Prop} (h : c) (q : Ent L φ) : Ent L fun H => if decide c = true then φ H else ψ H := fun H k => ifT h (q H k)
theorem eDF {c : Prop} [Decidable c] {φ ψ : Hp → Prop} (h : ¬ c) (q : Ent L ψ) : Ent L fun H => if decide c = true then φ H else ψ H := fun H k => ifF h (q H k)
theorem eNDT {c : Prop} [Decidable c] {φ ψ : Hp → Prop} (h : c) (q : Ent L ψ) : Ent L fun H => if (!decide c) = true then φ H else ψ H := fun H k => ifT' h (q H k)
theorem eNDF {c : Prop} [Decidable c] {φ ψ : Hp → Prop} (h : ¬ c) (q : Ent L φ) : Ent L fun H => if (!decide c) = true then φ H else ψ H := fun H k => ifF' h (q H k)
theorem eB {b : Bool} {φ ψ : Hp → Prop} (h1 : b = true → Ent L φ) (h2 : b = false → Ent L ψ) : Ent L fun H => if b = true then φ H else ψ H := fun H k => ifB (fun e => h1 e H k) (fun e => h2 e H k)
theorem eS {c : Prop} [Decidable c] {φ ψ : Hp → Prop} (h1 : c → Ent L φ) (h2 : ¬ c → Ent L ψ) : Ent L fun H => if decide c = true then φ H else ψ H := fun H k => ifS (fun e => h1 e H k) (fun e => h2 e H k)
theorem eNS {c : Prop} [Decidable c] {φ ψ : Hp → Prop} (h1 : c → Ent L ψ) (h2 : ¬ c → Ent L φ) : Ent L fun H => if (!decide c) = true then φ H else ψ H := fun H k => ifS' (fun e => h1 e H k) (fun e => h2 e H k)
/-- both ways of a test end alike -/
theorem e_boolD {φ : Bool → Hp → Prop} {b b' : Bool} (h : b = b') (q : Ent L (φ b')) : Ent L (φ b) := h ▸ q
/-! ### steps that change the heap -/
theorem e_tup (q : Ent L fun H => tas σ H (kNewT Q)) : Ent L fun H => tTup tas σ H Q := q
theorem e_lst (q : Ent L fun H => tas σ H (kNewL Q)) : Ent L fun H => tLst tas σ H Q := q
theorem e_newT (h : xs.length ≤ 100000) (q : ∀ p, Ent (tu p xs :: L) (Q (.ref p))) : Ent L fun H => kNewT Q xs H := fun H k => ⟨Nat.le_trans h (by decide), fun p n => q p _ (k.newI n rfl)⟩
theorem e_newL (h : xs.length ≤ 100000) (q : ∀ p, Ent (pt p (.lst xs) :: L) (Q (.ref p))) : Ent L fun H => kNewL Q xs H := fun H k => ⟨Nat.le_trans h (by decide), fun p n => q p _ (k.new n rfl)⟩
theorem e_div {i j : Int} (h : CDiv i j) (q : ∀ p, Ent (tu p [.int (i / j), .int (i % j)] :: L) (Q (.ref p))) : Ent L fun H => rDivK [.int i, .int j] H Q := fun H k => ⟨i, j, rfl, h, fun p n => q p _ (k.newI n rfl)⟩
theorem e_setL {i : Int} {j : Nat} {φ : Hp → Prop} (h : Take (pt a (.lst xs)) L R) (hi : ixN xs.length i = some j) (q : Ent (pt a (.lst (xs.set j v)) :: R) φ) : Ent L fun H => rSetL (.ref a) (.int i) v H φ := fun H k => ⟨a, xs, i, j, rfl, rfl, h.pt k, hi, q _ ((h.to k).upd rfl)⟩
theorem e_sfld {fs' : List (Str × V)} (h : Take (pt a (.ins C dx fs)) L R) (hc : Cls K C) (hn : NoAttr K C f) (hl : fs.length < 1000) (he : putF f y fs = fs') (q : Ent (pt a (.ins C dx fs') :: R) (nx σ)) : Ent L fun H => kSF K f nx σ y (.ref a) H := fun H k =>
  ⟨a, C, dx, fs, rfl, h.pt k, hc, hn, hl, by rw [he]; exact q _ ((h.to k).upd rfl)⟩
theorem e_app {y : V} (h : Take (pt l (.lst xs)) L R) (hz : xs.length ≤ 100000) (q : Ent (pt l (.lst (xs ++ [y])) :: R) (Q .non)) : Ent L fun H => rAppend (.ref l) [y] H Q := fun H k => ⟨l, xs, y, rfl, rfl, h.pt k, Nat.lt_of_le_of_lt hz (by decide), q _ ((h.to k).upd rfl)⟩
theorem e_pop {y : V} (h : Take (pt l (.lst xs)) L R) (hy : xs[xs.length - 1]? = some y) (q : Ent (pt l (.lst xs.dropLast) :: R) (Q y)) : Ent L fun H => rPop (.ref l) [] H Q := fun H k => ⟨l, xs, y, rfl, rfl, h.pt k, hy, q _ ((h.to k).upd rfl)⟩
theorem e_popAt {y : V} {i : Int} {j : Nat} (h : Take (pt l (.lst xs)) L R) (h0 : -1000000 ≤ i ∧ i ≤ 1000000) (hj : seqIndex? i xs.length = some j) (hy : xs[j]? = some y) (q : Ent (pt l (.lst (xs.eraseIdx j)) :: R) (Q y)) : Ent L fun H => rPopAt (.ref l) [.int i] H Q := fun H k => ⟨l, xs, i, j, y, rfl, rfl, h.pt k, by omega, by omega, hj, hy, q _ ((h.to k).upd rfl)⟩
theorem e_ext (h1 : Take (pt l (.lst xs)) L R) (h2 : Take (pt b (.lst zs)) R M) (hz : xs.length + zs.length ≤ 100000) (q : Ent (pt l (.lst (xs ++ zs)) :: R) (Q .non)) : Ent L fun H => rExtend (.ref l) [.ref b] H Q := fun H k => ⟨l, b, xs, zs, rfl, rfl, h1.pt k, h2.pt (Sub.to (Sub.drop Sub.refl) (h1.to k)), Nat.le_trans hz (by decide), q _ ((h1.to k).upd rfl)⟩
theorem e_clear (h : Take (pt l (.lst xs)) L R) (q : Ent (pt l (.lst []) :: R) (Q .non)) : Ent L fun H => rClear (.ref l) [] H Q := fun H k => ⟨l, xs, rfl, rfl, h.pt k, q _ ((h.to k).upd rfl)⟩
theorem e_reverse (h : Take (pt l (.lst xs)) L R) (q : Ent (pt l (.lst xs.reverse) :: R) (Q .non)) : Ent L fun H => rReverse (.ref l) [] H Q := fun H k => ⟨l, xs, rfl, rfl, h.pt k, q _ ((h.to k).upd rfl)⟩
theorem e_cat {R' : List HA} (h1 : Take (pt l (.lst xs)) L R) (h2 : Take (pt b (.lst zs)) L R') (hz : xs.length + zs.length ≤ 100000) (q : ∀ p, Ent (pt p (.lst (xs ++ zs)) :: L) (Q (.ref p))) : Ent L fun H => rCat (.ref l) (.ref b) H Q := fun H k => ⟨l, b, xs, zs, rfl, rfl, h1.pt k, h2.pt k, Nat.le_trans hz (by decide), fun p n => q p _ (k.new n rfl)⟩
theorem e_slL {lo hi : Option Int} (h : HasL K L a xs) (q : ∀ p, Ent (pt p (.lst (cutV xs lo hi)) :: L) (Q (.ref p))) : Ent L fun H => rSlL K (.ref a) lo hi H Q := fun H k => ⟨a, xs, rfl, h H k, fun p n => q p _ (k.new n rfl)⟩
theorem e_slT {lo hi : Option Int} (h : HasT K L a xs) (hw : ¬ (HT.sIx xs.length 0 lo = 0 ∧ HT.sIx xs.length xs.length hi = xs.length)) (q : ∀ p, Ent (tu p (cutV xs lo hi) :: L) (Q (.ref p))) : Ent L fun H => rSlT K (.ref a) lo hi H Q := fun H k => ⟨a, xs, rfl, h H k, hw, fun p n => q p _ (k.newI n rfl)⟩
theorem e_rev0 (q : Ent L fun H => te σ H fun x H1 => kRev K Q x H1) : Ent L fun H => tRevL K te σ H Q := q
theorem e_rev (h : HasL K L a xs) (q : ∀ p, Ent (pt p (.lst xs.reverse) :: L) (Q (.ref p))) : Ent L fun H => kRev K Q (.ref a) H := fun H k => ⟨a, xs, rfl, h H k, fun p n => q p _ (k.new n rfl)⟩
theorem e_rep {k : Int} (h : Take (pt a (.lst xs)) L R) (h1 : -100000 ≤ k) (h2 : k ≤ 100000) (hz : xs.length ≤ 100) (q : ∀ p, Ent (pt p (.lst (List.replicate k.toNat xs).flatten) :: L) (Q (.ref p))) : Ent L fun H => rRep (.ref a) (.int k) H Q := fun H z =>
  w_rep (h.pt z) h1 h2 hz fun p n => q p _ (z.new n rfl)
theorem e_listOf (h : HasL K L a xs) (q : ∀ p, Ent (pt p (.lst xs) :: L) (Q (.ref p))) : Ent L fun H => rListK K [.ref a] H Q := fun H k => ⟨a, xs, rfl, .inl (h H k), fun p n => q p _ (k.new n rfl)⟩
theorem e_listOfT (h : HasT K L a xs) (q : ∀ p, Ent (pt p (.lst xs) :: L) (Q (.ref p))) : Ent L fun H => rListK K [.ref a] H Q := fun H k => ⟨a, xs, rfl, .inr (h H k), fun p n => q p _ (k.new n rfl)⟩
theorem e_tupOf (h : HasL K L a xs) (q : ∀ p, Ent (tu p xs :: L) (Q (.ref p))) : Ent L fun H => rTupK K [.ref a] H Q := fun H k => ⟨a, xs, rfl, .inl ⟨h H k, fun p n => q p _ (k.newI n rfl)⟩⟩
theorem e_tupOfT (h : HasT K L a xs) (q : Ent L (Q (.ref a))) : Ent L fun H => rTupK K [.ref a] H Q := fun H k => ⟨a, xs, rfl, .inr ⟨h H k, q H k⟩⟩
theorem e_lstRg {te : L2.St → Hp → (Int → Int → Hp → Prop) → Prop} (q : Ent L fun H => te σ H (kRgL Q)) : Ent L fun H => tLstRg te σ H Q := q
theorem e_tupRg {te : L2.St → Hp → (Int → Int → Hp → Prop) → Prop} (q : Ent L fun H => te σ H (kRgT Q)) : Ent L fun H => tTupRg te σ H Q := q
theorem e_rgL {i j : Int} (h : 0 ≤ i ∧ j ≤ 16777216 ∧ i ≤ 16777216 ∧ 0 ≤ j) (q : ∀ p, Ent (pt p (.lst (rgV i j)) :: L) (Q (.ref p))) : Ent L fun H => kRgL Q i j H := fun H k => ⟨RgOk.of_le h.1 h.2.1 h.2.2.1 h.2.2.2, fun p n => q p _ (k.new n rfl)⟩
theorem e_rgT {i j : Int} (h : 0 ≤ i ∧ j ≤ 16777216 ∧ i ≤ 16777216 ∧ 0 ≤ j) (q : ∀ p, Ent (tu p (rgV i j) :: L) (Q (.ref p))) : Ent L fun H => kRgT Q i j H := fun H k => ⟨RgOk.of_le h.1 h.2.1 h.2.2.1 h.2.2.2, fun p n => q p _ (k.newI n rfl)⟩
theorem e_rg1 {Q : Int → Int → Hp → Prop} (q : Ent L fun H => ta σ H fun x H1 => ∃ n, x = .int n ∧ Q 0 n H1) : Ent L fun H => tRg1 ta σ H Q := q
theorem e_rg2 {Q : Int → Int → Hp → Prop} (q : Ent L fun H => ta σ H fun x H1 => tb σ H1 fun y H2 => ∃ i j, x = .int i ∧ y = .int j ∧ Q i j H2) : Ent L fun H => tRg2 ta tb σ H Q := q
theorem e_make {sp : Sp} {E : XK} (q : Ent L fun H => tas σ H (kMake C sp E Q)) : Ent L fun H => tMake C sp [] E tas σ H Q := by
  have e : (fun (vs : List V) (H1 : Hp) => ∀ x dx, H1 x = none → H1 dx = none → dx ≠ x → sp (.ref x :: (vs ++ [])) (upd (upd H1 dx (.own x)) x (.ins C dx [])) (fun v H2 => v = .non ∧ Q (.ref x) H2) E) = kMake C sp E Q := by funext vs H1; rw [List.append_nil]; rfl
  show Ent L fun H => tas σ H (fun vs H1 => ∀ x dx, H1 x = none → H1 dx = none → dx ≠ x → sp (.ref x :: (vs ++ [])) (upd (upd H1 dx (.own x)) x (.ins C dx [])) (fun v H2 => v = .non ∧ Q (.ref x) H2) E)
  rw [e]
  exact q
theorem e_makeK {j l : Nat} {sp : Sp} {gV : List V → List V → List V} {E : XK} (q : Ent L fun H => tas σ H fun vs H1 => tk σ H1 (kMakeK C j l sp gV E Q vs)) : Ent L fun H => tMakeK C j l sp gV E tas tk σ H Q := q
theorem holds_ins {H : Hp} {x : Addr} (k : Holds L H) (n1 : H x = none) (n2 : H dx = none) (n3 : dx ≠ x) : Holds (pt x (.ins C dx []) :: L) (upd (upd H dx (.own x)) x (.ins C dx [])) := by
  have k2 := k.newI (o := .own x) n2 rfl
  have n4 : (upd H dx (.own x)) x = none := by rw [upd_ne (Ne.symm n3)]; exact n1
  exact Sub.to (Sub.cons (Sub.drop Sub.refl)) (k2.new (o := .ins C dx []) n4 rfl)
theorem e_new {sp : Sp} {E : XK} {vs : List V} (q : ∀ x dx, Ent (pt x (.ins C dx []) :: L) fun H => sp (.ref x :: vs) H (fun v H2 => v = .non ∧ Q (.ref x) H2) E) : Ent L fun H => kMake C sp E Q vs H := fun H k x dx n1 n2 n3 => q x dx _ (holds_ins k n1 n2 n3)
theorem e_newK {j l : Nat} {sp : Sp} {gV : List V → List V → List V} {E : XK} {vs zs : List V} (h1 : vs.length = j) (h2 : zs.length = l) (q : ∀ x dx, Ent (pt x (.ins C dx []) :: L) fun H => sp (gV (.ref x :: vs) zs) H (fun v H2 => v = .non ∧ Q (.ref x) H2) E) : Ent L fun H => kMakeK C j l sp gV E Q vs zs H := fun H k => ⟨h1, h2, fun x dx n1 n2 n3 => q x dx _ (holds_ins k n1 n2 n3)⟩
theorem e_rfl {φ : Hp → Prop} (q : Ent L φ) : Ent L fun H => x = x ∧ φ H := fun H k => ⟨rfl, q H k⟩
theorem e_eqD {α : Type} [DecidableEq α] {d : α → PyData} {n : Nat} (h : DtOk d n) {i j : α} (h1 : ∀ H, Holds L H → Dp K H x (d i)) (h2 : ∀ H, Holds L H → Dp K H y (d j)) (q : Ent L (Q (.bl (decide (i = j))))) (hn : n ≤ 64 := by decide) : Ent L fun H => rEqD K x y H Q := fun H k => w_eqDt h (h1 H k) (h2 H k) (q H k) hn
theorem e_neD {α : Type} [DecidableEq α] {d : α → PyData} {n : Nat} (h : DtOk d n) {i j : α} (h1 : ∀ H, Holds L H → Dp K H x (d i)) (h2 : ∀ H, Holds L H → Dp K H y (d j)) (q : Ent L (Q (.bl (!decide (i = j))))) (hn : n ≤ 64 := by decide) : Ent L fun H => rNeD K x y H Q := fun H k => w_neDt h (h1 H k) (h2 H k) (q H k) hn
theorem e_eqSame {x y : V} (d : PyData) (h1 : ∀ H, Holds L H → Dp K H x d) (h2 : ∀ H, Holds L H → Dp K H y d) (hl : d.canLay0 = true) (hd : d.depth ≤ 60) (q : Ent L (Q (.bl true))) : Ent L fun H => rEqD K x y H Q := fun H k => w_eqD d (h1 H k) (h2 H k) (shaped_of hl hd (by decide)) (SeqAt.eqv_refl d hl) (q H k)
theorem e_neSame {x y : V} (d : PyData) (h1 : ∀ H, Holds L H → Dp K H x d) (h2 : ∀ H, Holds L H → Dp K H y d) (hl : d.canLay0 = true) (hd : d.depth ≤ 60) (q : Ent L (Q (.bl false))) : Ent L fun H => rNeD K x y H Q := fun H k => w_neD d (h1 H k) (h2 H k) (shaped_of hl hd (by decide)) (SeqAt.eqv_refl d hl) (q H k)
theorem e_eqI {ns ms : List Int} (h1 : HasL K L a (ns.map V.int)) (h2 : HasL K L b (ms.map V.int)) (q : Ent L (Q (.bl (decide (ns = ms))))) : Ent L fun H => rEqD K (.ref a) (.ref b) H Q := e_eqD DtOk.int.list (fun H k => .lst (h1 H k) (ints_dp ns)) (fun H k => .lst (h2 H k) (ints_dp ms)) q
theorem e_neI {ns ms : List Int} (h1 : HasL K L a (ns.map V.int)) (h2 : HasL K L b (ms.map V.int)) (q : Ent L (Q (.bl (!decide (ns = ms))))) : Ent L fun H => rNeD K (.ref a) (.ref b) H Q := e_neD DtOk.int.list (fun H k => .lst (h1 H k) (ints_dp ns)) (fun H k => .lst (h2 H k) (ints_dp ms)) q
theorem e_eqI0 {ns : List Int} (h1 : HasL K L a (ns.map V.int)) (h2 : HasL K L b []) (q : Ent L (Q (.bl (decide (ns = []))))) : Ent L fun H => rEqD K (.ref a) (.ref b) H Q := e_eqI (ms := []) h1 h2 q
theorem e_neI0 {ns : List Int} (h1 : HasL K L a (ns.map V.int)) (h2 : HasL K L b []) (q : Ent L (Q (.bl (!decide (ns = []))))) : Ent L fun H => rNeD K (.ref a) (.ref b) H Q := e_neI (ms := []) h1 h2 q
theorem inV_int (x : Int) : ∀ ns : List Int, inV (.int x) (ns.map V.int) = decide (x ∈ ns)
  | [] => by simp [inV]
  | n :: ns => by
    have ih := inV_int x ns
    unfold inV at ih ⊢
    rw [List.map_cons, List.any_cons, ih]
    by_cases h : n = x
    · subst h; simp [eqV]
    · have h' : ¬ x = n := fun z => h z.symm
      simp [eqV, h, h']
theorem flat_ints (ns : List Int) : (ns.map V.int).all flatV = true := by
  rw [List.all_eq_true]
  intro v hv
  obtain ⟨n, _, rfl⟩ := List.mem_map.mp hv
  rfl
theorem e_inI {ns : List Int} {x : Int} (h : HasL K L a (ns.map V.int)) (q : Ent L (Q (.bl (decide (x ∈ ns))))) : Ent L fun H => rIn K false (.int x) (.ref a) H Q := e_inL h rfl (flat_ints ns) (by rw [inV_int]; exact q)
theorem e_niI {ns : List Int} {x : Int} (h : HasL K L a (ns.map V.int)) (q : Ent L (Q (.bl (!decide (x ∈ ns))))) : Ent L fun H => rIn K true (.int x) (.ref a) H Q := e_inL h rfl (flat_ints ns) (by rw [inV_int]; exact q)
theorem atI_of {α : Type} {xs : List α} {i : Int} {v : α} (h : 0 ≤ i) (e : xs[i.toNat]? = some v) : atI xs i = some v := by
  have hj := (List.getElem?_eq_some_iff.mp e).1
  have z : ((i.toNat : Nat) : Int) = i := by omega
  have q : atI xs ((i.toNat : Nat) : Int) = some v := atI_nat e
  rw [z] at q
  exact q
theorem atI_ofM {α : Type} {xs : List α} {f : α → V} {i : Int} {v : α} (h : 0 ≤ i) (e : xs[i.toNat]? = some v) : atI (xs.map f) i = some (f v) := atI_of h (by rw [List.getElem?_map, e]; rfl)
theorem e_own {sp : Sp} {E : XK} {y : V} {t : Value} (h : ∀ H, Holds L H → ∃ dx fs, H a = some (.ins C dx fs)) (ht : ∀ H, Holds L H → TyX K H y t) (hn : PySem.W.notFirst K C t = true) (q : Ent L fun H => sp [.ref a, y] H (fun v H' => ∃ b, v = .bl b ∧ Q v H') E) : Ent L fun H => rOwn K C sp E (.ref a) y H Q := fun H k => by
  obtain ⟨dx, fs, e⟩ := h H k
  exact ⟨a, dx, fs, t, rfl, e, ht H k, hn, q H k⟩
theorem take_eq {o o' : HO} (e : o = o') (t : Take (pt a o) L R) : Take (pt a o') L R := e ▸ t
theorem take_eqI {o o' : HO} (e : o = o') (t : Take (im a o) L R) : Take (im a o') L R := e ▸ t
/-! ### lists that are an image -/
section
variable {α : Type} {g : α → V} {us ws : List α} {w : α}
def cutA {α : Type} (xs : List α) (lo hi : Option Int) : List α := (xs.drop (HT.sIx xs.length 0 lo)).take (HT.sIx xs.length xs.length hi - HT.sIx xs.length 0 lo)
theorem erase_map : ∀ (us : List α) (j : Nat), (us.map g).eraseIdx j = (us.eraseIdx j).map g
  | [], j => by simp
  | u :: us, 0 => rfl
  | u :: us, j + 1 => by simp [erase_map us j]
theorem cutV_map (lo hi : Option Int) : cutV (us.map g) lo hi = (cutA us lo hi).map g := by
  unfold cutV cutA
  rw [List.length_map, List.map_take, List.map_drop]
theorem cutV_A {xs : List V} (lo hi : Option Int) : cutV xs lo hi = cutA xs lo hi := rfl
theorem cutA_to {j : Int} (h : 0 ≤ j) : cutA us none (some j) = us.take j.toNat := by
  unfold cutA
  rw [HT.sIx_none, sIx_int _ _ _ h]
  by_cases q : j.toNat ≤ us.length
  · rw [Nat.min_eq_left q]; simp
  · rw [Nat.min_eq_right (by omega), List.take_of_length_le (by omega : us.length ≤ j.toNat)]; simp
theorem cutA_from {i : Int} (h : 0 ≤ i) : cutA us (some i) none = us.drop i.toNat := by
  unfold cutA
  rw [HT.sIx_none, sIx_int _ _ _ h]
  by_cases q : i.toNat ≤ us.length
  · rw [Nat.min_eq_left q, List.take_of_length_le (by rw [List.length_drop]; omega)]
  · rw [Nat.min_eq_right (by omega)]
    simp [List.drop_eq_nil_of_le (by omega : us.length ≤ i.toNat)]
theorem cutA_mid {i j : Int} (h : 0 ≤ i) (hj : i ≤ j) : cutA us (some i) (some j) = (us.drop i.toNat).take (j.toNat - i.toNat) := by
  unfold cutA
  rw [sIx_int _ _ _ h, sIx_int _ _ _ (by omega)]
  by_cases q : i.toNat ≤ us.length
  · rw [Nat.min_eq_left q]
    by_cases q2 : j.toNat ≤ us.length
    · rw [Nat.min_eq_left q2]
    · rw [Nat.min_eq_right (by omega), List.take_of_length_le (by rw [List.length_drop]; omega), List.take_of_length_le (by rw [List.length_drop]; omega)]
  · rw [Nat.min_eq_right (by omega)]
    simp [List.drop_eq_nil_of_le (by omega : us.length ≤ i.toNat)]
    exact .inr (by omega)
theorem cutA_all : cutA us none none = us := by unfold cutA; simp [HT.sIx_none]
theorem cutA_last {w : α} : cutA (us ++ [w]) (some (-1)) none = [w] := by
  unfold cutA
  rw [HT.sIx_none]
  have e : HT.sIx (us ++ [w]).length 0 (some (-1)) = us.length := by
    unfold HT.sIx
    simp
    omega
  rw [e]
  simp
theorem cutA_last0 : cutA ([] : List α) (some (-1)) none = [] := by unfold cutA; simp
theorem cutA_init {w : α} : cutA (us ++ [w]) none (some (-1)) = us := by
  unfold cutA
  rw [HT.sIx_none]
  have e : HT.sIx (us ++ [w]).length (us ++ [w]).length (some (-1)) = us.length := by
    unfold HT.sIx
    simp
    omega
  rw [e]
  simp
theorem cutA_h1 {w : α} : cutA (w :: us) none (some 1) = [w] := by rw [cutA_to (by omega)]; rfl
theorem cutA_t1 {w : α} : cutA (w :: us) (some 1) none = us := by rw [cutA_from (by omega)]; rfl
theorem atI_0 {w : α} : atI (w :: us) 0 = some w := atI_of (by omega) rfl
theorem atI_m1 {w : α} : atI (us ++ [w]) (-1) = some w := by
  unfold atI ixN
  rw [if_neg (by omega), if_pos (by rw [List.length_append, List.length_singleton]; omega)]
  have e : (-1 + (((us ++ [w]).length : Nat) : Int)).toNat = us.length := by rw [List.length_append, List.length_singleton]; omega
  rw [e]
  simp
theorem atI_map {i : Int} (h : atI us i = some w) : atI (us.map g) i = some (g w) := by
  unfold atI at h ⊢
  rw [List.length_map]
  cases z : ixN us.length i with
  | none => rw [z] at h; cases h
  | some j =>
    rw [z] at h
    show (us.map g)[j]? = _
    rw [List.getElem?_map]
    have h : us[j]? = some w := h
    rw [h]
    rfl
theorem e_ixM {i : Int} (h : HasL K L a (us.map g)) (hi : atI us i = some w) (q : Ent L fun H => Q (g w) H) : Ent L fun H => rIxL K (.ref a) (.int i) H Q := e_ixL h (atI_map hi) q
theorem e_setM {v : V} {i : Int} {j : Nat} {φ : Hp → Prop} (h : Take (pt a (.lst (us.map g))) L R) (hv : v = g w) (hi : ixN us.length i = some j) (q : Ent (pt a (.lst ((us.set j w).map g)) :: R) φ) : Ent L fun H => rSetL (.ref a) (.int i) v H φ := by
  subst hv
  refine e_setL h (by rw [List.length_map]; exact hi) ?_
  rw [← List.map_set]
  exact q
theorem e_appM {v : V} (h : Take (pt l (.lst (us.map g))) L R) (hv : v = g w) (hz : us.length ≤ 100000) (q : Ent (pt l (.lst ((us ++ [w]).map g)) :: R) (Q .non)) : Ent L fun H => rAppend (.ref l) [v] H Q := by
  subst hv
  refine e_app h (by rw [List.length_map]; exact hz) ?_
  rw [List.map_append] at q
  exact q
theorem e_popM (h : Take (pt l (.lst (us.map g))) L R) (hy : us[us.length - 1]? = some w) (q : Ent (pt l (.lst (us.dropLast.map g)) :: R) (Q (g w))) : Ent L fun H => rPop (.ref l) [] H Q := by
  refine e_pop h (by rw [List.length_map, List.getElem?_map, hy]; rfl) ?_
  rw [List.map_dropLast] at q
  exact q
theorem e_popAtM {i : Int} {j : Nat} (h : Take (pt l (.lst (us.map g))) L R) (h0 : -1000000 ≤ i ∧ i ≤ 1000000) (hj : seqIndex? i us.length = some j) (hy : us[j]? = some w) (q : Ent (pt l (.lst ((us.eraseIdx j).map g)) :: R) (Q (g w))) : Ent L fun H => rPopAt (.ref l) [.int i] H Q := by
  refine e_popAt h h0 (by rw [List.length_map]; exact hj) (by rw [List.getElem?_map, hy]; rfl) ?_
  rw [erase_map] 
  exact q
theorem e_slM {lo hi : Option Int} (h : HasL K L a (us.map g)) (q : ∀ p, Ent (pt p (.lst ((cutA us lo hi).map g)) :: L) (Q (.ref p))) : Ent L fun H => rSlL K (.ref a) lo hi H Q := e_slL h fun p => by rw [cutV_map]; exact q p
theorem e_revM (h : HasL K L a (us.map g)) (q : ∀ p, Ent (pt p (.lst (us.reverse.map g)) :: L) (Q (.ref p))) : Ent L fun H => kRev K Q (.ref a) H := e_rev h fun p => by rw [← List.map_reverse]; exact q p
theorem e_catM {R' : List HA} (h1 : Take (pt l (.lst (us.map g))) L R) (h2 : Take (pt b (.lst (ws.map g))) L R') (hz : us.length + ws.length ≤ 100000) (q : ∀ p, Ent (pt p (.lst ((us ++ ws).map g)) :: L) (Q (.ref p))) : Ent L fun H => rCat (.ref l) (.ref b) H Q := e_cat h1 h2 (by rw [List.length_map, List.length_map]; exact hz) fun p => by rw [← List.map_append]; exact q p
end
theorem ixN_at {α : Type} {us : List α} {i : Int} (h0 : 0 ≤ i) (h1 : i < us.length) : ixN us.length i = some i.toNat := ixN_of h0 h1
theorem e_catT (h1 : HasT K L a xs) (h2 : HasT K L b ys) (hx : xs ≠ []) (hy : ys ≠ []) (hz : xs.length + ys.length ≤ 100000) (q : ∀ p, Ent (tu p (xs ++ ys) :: L) (Q (.ref p))) : Ent L fun H => rCatT K (.ref a) (.ref b) H Q := fun H k =>
  ⟨a, b, xs, ys, rfl, rfl, h1 H k, h2 H k, hx, Nat.le_trans hz (by decide), fun z => (hy z).elim, fun _ p n => q p _ (k.newI n rfl)⟩
theorem e_catT0 (h1 : HasT K L a xs) (h2 : HasT K L b []) (hx : xs ≠ []) (hz : xs.length ≤ 100000) (q : Ent L (Q (.ref a))) : Ent L fun H => rCatT K (.ref a) (.ref b) H Q := fun H k =>
  ⟨a, b, xs, [], rfl, rfl, h1 H k, h2 H k, hx, Nat.le_trans hz (by decide), fun _ => q H k, fun z => (z rfl).elim⟩
theorem e_isi {v w : V} {t u : Value} {r : Bool} (ht : ∀ H, Holds L H → TyX K H v t) (hc : ClsV w u) (hk : PySem.W.kitOne K t u = some r) (q : Ent L (Q (.bl r))) : Ent L fun H => rIsi K [v, w] H Q := fun H k => ⟨v, w, t, u, r, rfl, hc, ht H k, hk, q H k⟩
/-- an instance of C stands at a, without an attribute m -/
def HasI (C : Addr) (L : List HA) (a : Addr) (m : Str) : Prop := ∀ H, Holds L H → ∃ dx fs, H a = some (.ins C dx fs) ∧ fs.lookup m = none
theorem hasI_pt {m : Str} (t : Take (pt a (.ins C dx fs)) L R) (hl : fs.lookup m = none) : HasI C L a m := fun H h => ⟨dx, fs, t.pt h, hl⟩
theorem e_methI {φ : Hp → Prop} {m : Str} (h : HasI C L a m) (q : Ent L φ) : Ent L fun H => ∃ a' dx fs, V.ref a = .ref a' ∧ H a' = some (.ins C dx fs) ∧ fs.lookup m = none ∧ φ H := fun H k => by
  obtain ⟨dx, fs, e, l⟩ := h H k
  exact ⟨a, dx, fs, rfl, e, l, q H k⟩
theorem e_propI {sp : Sp} {dvs : List V} {E : XK} (h : HasI C L a "") (q : Ent L fun H => sp (.ref a :: dvs) H Q E) : Ent L fun H => ∃ a' dx fs, V.ref a = .ref a' ∧ H a' = some (.ins C dx fs) ∧ sp (.ref a' :: dvs) H Q E := fun H k => by
  obtain ⟨dx, fs, e, l⟩ := h H k
  exact ⟨a, dx, fs, rfl, e, q H k⟩
/-! ### loops -/
/-- a walk that yields f i, the heap unchanged, wherever G stands -/
theorem e_loop {β : Type} {J : It} {n : Nat} {G : Hp → Prop} {Y : Nat → Hp → V → Hp → Prop} {g : TG} {tb : TS} (w : Walk J n G Y) (sg : Nat → β → St) (Pv : Nat → β → List HA) (b0 : β) (h0 : σ = sg 0 b0) (s0 : Sub L (Pv 0 b0)) (hG : ∀ i b, Ent (Pv i b) G)
    (hs : ∀ i x b, i < n → ∀ H H', Holds (Pv i b) H → Y i H x H' → g x (sg i b) H' fun σ2 H2 => tb ⟨fun σ' H' => ∃ b, σ' = sg (i + 1) b ∧ Holds (Pv (i + 1) b) H', rt, nx, fun σ' H' => ∃ b, σ' = sg (i + 1) b ∧ Holds (Pv (i + 1) b) H'⟩ σ2 H2)
    (hd : ∀ b, Ent (Pv n b) (nx (sg n b))) : Ent L fun H => kLoop g tb ⟨nx, rt, bk, ct⟩ σ J H := fun H k =>
  w_loop w (fun i σ' H' => ∃ b, σ' = sg i b ∧ Holds (Pv i b) H') ⟨b0, h0, s0.to k⟩ (fun i σ H _ ⟨b, _, z⟩ => hG i b H z) (fun i x σ' H' H'' hi ⟨b, e, z⟩ y => by subst e; exact hs i x b hi H' H'' z y) (fun σ' H' ⟨b, e, z⟩ => by subst e; exact hd b H' z)
theorem e_list {β : Type} {g : TG} {tb : TS} (sg : Nat → β → St) (Pv : Nat → β → List HA) (b0 : β) (h : HasL K L a xs) (h0 : σ = sg 0 b0) (s0 : Sub L (Pv 0 b0)) (hl : ∀ i b, HasL K (Pv i b) a xs)
    (hs : ∀ i x b, xs[i]? = some x → Ent (Pv i b) fun H => g x (sg i b) H fun σ2 H2 => tb ⟨fun σ' H' => ∃ b, σ' = sg (i + 1) b ∧ Holds (Pv (i + 1) b) H', rt, nx, fun σ' H' => ∃ b, σ' = sg (i + 1) b ∧ Holds (Pv (i + 1) b) H'⟩ σ2 H2)
    (hd : ∀ b, Ent (Pv xs.length b) (nx (sg xs.length b))) : Ent L fun H => kFL K g tb ⟨nx, rt, bk, ct⟩ σ (.ref a) H := fun H k =>
  w_list (fun i σ' H' => ∃ b, σ' = sg i b ∧ Holds (Pv i b) H') (h H k) ⟨b0, h0, s0.to k⟩ (fun i σ' H' _ ⟨b, _, z⟩ => hl i b H' z) (fun i x σ' H' hx ⟨b, e, z⟩ => by subst e; exact hs i x b hx H' z) (fun σ' H' ⟨b, e, z⟩ => by subst e; exact hd b H' z)
theorem e_tupl {β : Type} {g : TG} {tb : TS} (sg : Nat → β → St) (Pv : Nat → β → List HA) (b0 : β) (h : HasT K L a xs) (h0 : σ = sg 0 b0) (s0 : Sub L (Pv 0 b0)) (hl : ∀ i b, HasT K (Pv i b) a xs)
    (hs : ∀ i x b, xs[i]? = some x → Ent (Pv i b) fun H => g x (sg i b) H fun σ2 H2 => tb ⟨fun σ' H' => ∃ b, σ' = sg (i + 1) b ∧ Holds (Pv (i + 1) b) H', rt, nx, fun σ' H' => ∃ b, σ' = sg (i + 1) b ∧ Holds (Pv (i + 1) b) H'⟩ σ2 H2)
    (hd : ∀ b, Ent (Pv xs.length b) (nx (sg xs.length b))) : Ent L fun H => kFT K g tb ⟨nx, rt, bk, ct⟩ σ (.ref a) H := fun H k =>
  w_tupl (fun i σ' H' => ∃ b, σ' = sg i b ∧ Holds (Pv i b) H') (h H k) ⟨b0, h0, s0.to k⟩ (fun i σ' H' _ ⟨b, _, z⟩ => hl i b H' z) (fun i x σ' H' hx ⟨b, e, z⟩ => by subst e; exact hs i x b hx H' z) (fun σ' H' ⟨b, e, z⟩ => by subst e; exact hd b H' z)
theorem e_range1 {β : Type} {g : TG} {tb : TS} {j : Int} (sg : Nat → β → St) (Pv : Nat → β → List HA) (b0 : β) (hj : -100000000 ≤ j ∧ j < 100000000) (h0 : σ = sg 0 b0) (s0 : Sub L (Pv 0 b0))
    (hs : ∀ (i : Nat) b, (i : Int) < j → Ent (Pv i b) fun H => g (.int i) (sg i b) H fun σ2 H2 => tb ⟨fun σ' H' => ∃ b, σ' = sg (i + 1) b ∧ Holds (Pv (i + 1) b) H', rt, nx, fun σ' H' => ∃ b, σ' = sg (i + 1) b ∧ Holds (Pv (i + 1) b) H'⟩ σ2 H2)
    (hd : ∀ b, Ent (Pv j.toNat b) (nx (sg j.toNat b))) : Ent L fun H => kR1 g tb ⟨nx, rt, bk, ct⟩ σ [.int j] H := fun H k =>
  w_range1 (fun i σ' H' => ∃ b, σ' = sg i b ∧ Holds (Pv i b) H') hj ⟨b0, h0, s0.to k⟩ (fun i σ' H' hi ⟨b, e, z⟩ => by subst e; exact hs i b hi H' z) (fun σ' H' ⟨b, e, z⟩ => by subst e; exact hd b H' z)
theorem e_forR1 {g : TG} {tb : TS} (q : Ent L fun H => tas σ H fun vs H1 => kR1 g tb ⟨nx, rt, bk, ct⟩ σ vs H1) : Ent L fun H => tFor (iRng1 tas) g tb ⟨nx, rt, bk, ct⟩ σ H := q
theorem e_forL {g : TG} {tb : TS} (q : Ent L fun H => te σ H fun x H1 => kFL K g tb ⟨nx, rt, bk, ct⟩ σ x H1) : Ent L fun H => tFor (iList K te) g tb ⟨nx, rt, bk, ct⟩ σ H := q
theorem e_forT {g : TG} {tb : TS} (q : Ent L fun H => te σ H fun x H1 => kFT K g tb ⟨nx, rt, bk, ct⟩ σ x H1) : Ent L fun H => tFor (iTup K te) g tb ⟨nx, rt, bk, ct⟩ σ H := q
theorem e_forZ {g : TG} {tb : TS} (q : Ent L fun H => tas σ H fun us H1 => kZip K (kLoop g tb ⟨nx, rt, bk, ct⟩ σ) us H1) : Ent L fun H => tFor (iZip K tas) g tb ⟨nx, rt, bk, ct⟩ σ H := q
theorem e_forE {g : TG} {tb : TS} (q : Ent L fun H => tas σ H fun us H1 => kEnum K (kLoop g tb ⟨nx, rt, bk, ct⟩ σ) us H1) : Ent L fun H => tFor (iEnum K tas) g tb ⟨nx, rt, bk, ct⟩ σ H := q
/-! ### comprehensions: kp tells what is kept of an item (nothing: none); owned things stay as they are -/
def kLc (K : PySem.W.Frag) (g : TG) (tt : TT) (te : TE) (vs : List Nat) (σ : St) (Q : VK) (x : V) (H : Hp) : Prop := ∃ a, x = .ref a ∧ (∃ xs, SqL K H a xs) ∧ ∀ D, H D = none → ∃ W : Nat → Nat → Hp → Prop, (∃ m, W 0 m (upd H D (.lst []))) ∧ ∀ i m H, W i m H →
  ((Itl K a).stop i H ∧ Q (.ref D) H) ∨ ((Itl K a).go i H ∧ ∃ Nx : Hp → Prop, (∀ H', Nx H' → ∃ m', m' < m ∧ W (i + 1) m' H') ∧ ∀ x H', (Itl K a).yld i H x H' → g x (wipe σ vs) H' fun σ2 H2 => wipe σ2 vs = wipe σ vs ∧ tt σ2 H2 fun b H3 =>
    if b = true then te σ2 H3 fun y H4 => ∃ acc, H4 D = some (.lst acc) ∧ acc.length < sizeLine ∧ Nx (upd H4 D (.lst (acc ++ [y]))) else Nx H3)
theorem e_lc0 {g : TG} {tt : TT} {vs : List Nat} (q : Ent L fun H => ta σ H fun x H1 => kLc K g tt te vs σ Q x H1) : Ent L fun H => tLc (iList K ta) g tt te vs σ H Q := q
theorem e_lc {α : Type} {g : TG} {tt : TT} {vs : List Nat} (es : List α) (it : α → V) (kp : α → Option V) (h : HasL K L a (es.map it)) (hz : es.length ≤ 100000)
    (step : ∀ e, e ∈ es → ∀ D acc (r : VK) (s : Hp → Prop), (∀ y, kp e = some y → Ent (pt D (.lst acc) :: L) (r y)) → (kp e = none → Ent (pt D (.lst acc) :: L) s) → Ent (pt D (.lst acc) :: L) fun H => g (it e) (wipe σ vs) H fun σ2 H2 => wipe σ2 vs = wipe σ vs ∧ tt σ2 H2 fun b H3 => if b = true then te σ2 H3 r else s H3)
    (q : ∀ D, Ent (pt D (.lst (es.filterMap kp)) :: L) (Q (.ref D))) : Ent L fun H => kLc K g tt te vs σ Q (.ref a) H := fun H k => by
  refine ⟨a, rfl, ⟨_, h H k⟩, fun D nD => ?_⟩
  refine lc_list (K := K) (a := a) (xs := es.map it) (fun i H' => i ≤ es.length ∧ Holds (pt D (.lst ((es.take i).filterMap kp)) :: L) H') ⟨Nat.zero_le _, k.new nD rfl⟩ (fun i H' _ p => h H' (Sub.to (Sub.drop Sub.refl) p.2)) (fun i x H' hx p => ?_) (fun H' p => q D H' (by
    have e := p.2
    rw [List.length_map, List.take_length] at e
    exact e))
  obtain ⟨e, he, hin, rfl⟩ := map_at hx
  have hi : i < es.length := (List.getElem?_eq_some_iff.mp he).1
  have et : es.take (i + 1) = es.take i ++ [e] := by rw [List.take_succ, he]; rfl
  refine step e hin D _ _ _ (fun y hy H4 z => ?_) (fun hn H3 z => ?_) H' p.2
  · refine ⟨_, z.pt_get, Nat.lt_of_le_of_lt (List.length_filterMap_le _ _) (Nat.lt_of_le_of_lt ?_ (by decide : 100000 < sizeLine)), hi, ?_⟩
    · rw [List.length_take]
      omega
    · rw [et, List.filterMap_append]
      simp only [List.filterMap_cons, hy, List.filterMap_nil]
      exact z.upd rfl
  · refine ⟨hi, ?_⟩
    rw [et, List.filterMap_append]
    simp only [List.filterMap_cons, hn, List.filterMap_nil, List.append_nil]
    exact z
end
end Toy
namespace Toy
open PySem L2
/-! ### kinds of things that never change, and lists, tuples of them -/
abbrev KeepI (H H' : Hp) : Prop := Keep (fun _ => False) H H'
theorem Keep.i {S : Addr → Prop} {H H' : Hp} (k : Keep S H H') : KeepI H H' := k.mono fun _ z => z.elim
structure El (K : PySem.W.Frag) (α : Type) where
  P : Hp → V → α → Prop
  st : ∀ {H H' : Hp} {v : V} {x : α}, P H v x → KeepI H H' → P H' v x
  d : α → PyData
  dp : ∀ {H : Hp} {v : V} {x : α}, P H v x → Dp K H v (d x)
inductive All2 {α β : Type} (r : α → β → Prop) : List α → List β → Prop
  | nil : All2 r [] []
  | cons {x : α} {y : β} {xs : List α} {ys : List β} : r x y → All2 r xs ys → All2 r (x :: xs) (y :: ys)
section
variable {α β : Type} {r s : α → β → Prop} {xs xs' : List α} {ys ys' : List β}
theorem All2.imp (f : ∀ x y, r x y → s x y) : ∀ {xs ys}, All2 r xs ys → All2 s xs ys
  | _, _, .nil => .nil
  | _, _, .cons h t => .cons (f _ _ h) (All2.imp f t)
theorem All2.len : ∀ {xs : List α} {ys : List β}, All2 r xs ys → xs.length = ys.length
  | _, _, .nil => rfl
  | _, _, .cons _ t => by simp [All2.len t]
theorem All2.app (h : All2 r xs ys) (k : All2 r xs' ys') : All2 r (xs ++ xs') (ys ++ ys') := by
  induction h with
  | nil => exact k
  | cons h _ ih => exact .cons h ih
theorem All2.one {x : α} {y : β} (h : r x y) : All2 r [x] [y] := .cons h .nil
theorem All2.get : ∀ {xs : List α} {ys : List β} {i : Nat} {x : α}, All2 r xs ys → xs[i]? = some x → ∃ y, ys[i]? = some y ∧ r x y
  | _, _, _, _, .nil, e => by simp at e
  | _, _, 0, _, .cons h _, e => by simp at e; subst e; exact ⟨_, rfl, h⟩
  | _, _, i + 1, x, .cons _ t, e => by
    obtain ⟨y, h1, h2⟩ := All2.get (i := i) (x := x) t (by simpa using e)
    exact ⟨y, by simpa using h1, h2⟩
theorem All2.getR : ∀ {xs : List α} {ys : List β} {i : Nat} {y : β}, All2 r xs ys → ys[i]? = some y → ∃ x, xs[i]? = some x ∧ r x y
  | _, _, _, _, .nil, e => by simp at e
  | _, _, 0, _, .cons h _, e => by simp at e; subst e; exact ⟨_, rfl, h⟩
  | _, _, i + 1, x, .cons _ t, e => by
    obtain ⟨y, h1, h2⟩ := All2.getR (i := i) t (by simpa using e)
    exact ⟨y, by simpa using h1, h2⟩
theorem All2.take : ∀ (n : Nat) {xs : List α} {ys : List β}, All2 r xs ys → All2 r (xs.take n) (ys.take n)
  | 0, _, _, _ => by simp; exact .nil
  | n + 1, _, _, .nil => .nil
  | n + 1, _, _, .cons h t => .cons h (All2.take n t)
theorem All2.drop : ∀ (n : Nat) {xs : List α} {ys : List β}, All2 r xs ys → All2 r (xs.drop n) (ys.drop n)
  | 0, _, _, h => h
  | n + 1, _, _, .nil => .nil
  | n + 1, _, _, .cons h t => All2.drop n t
theorem All2.eraseIdx : ∀ (n : Nat) {xs : List α} {ys : List β}, All2 r xs ys → All2 r (xs.eraseIdx n) (ys.eraseIdx n)
  | _, _, _, .nil => by simp; exact .nil
  | 0, _, _, .cons h t => t
  | n + 1, _, _, .cons h t => .cons h (All2.eraseIdx n t)
theorem All2.set {x : α} {y : β} (q : r x y) : ∀ (n : Nat) {xs : List α} {ys : List β}, All2 r xs ys → All2 r (xs.set n x) (ys.set n y)
  | _, _, _, .nil => by simp; exact .nil
  | 0, _, _, .cons h t => .cons q t
  | n + 1, _, _, .cons h t => .cons h (All2.set q n t)
theorem All2.rev (h : All2 r xs ys) : All2 r xs.reverse ys.reverse := by
  induction h with
  | nil => exact .nil
  | cons h _ ih => simp only [List.reverse_cons]; exact ih.app (.one h)
theorem All2.map (f : β → α) (h : ∀ y ∈ ys, r (f y) y) : All2 r (ys.map f) ys := by
  induction ys with
  | nil => exact .nil
  | cons y ys ih => exact .cons (h y (List.mem_cons_self ..)) (ih fun z hz => h z (List.mem_cons_of_mem _ hz))
end
section
variable {K : PySem.W.Frag} {α β γ δ : Type}
theorem dpAll_of {d : α → PyData} {H : Hp} {vs : List V} {xs : List α} (h : All2 (fun v x => Dp K H v (d x)) vs xs) : DpAll K H vs (xs.map d) := by
  induction h with
  | nil => exact .nil
  | cons h _ ih => exact .cons h ih
def kI : El K Int := ⟨fun _ v n => v = .int n, fun h _ => h, .int, fun h => by subst h; exact .int _⟩
def kB : El K Bool := ⟨fun _ v n => v = .bl n, fun h _ => h, .bool, fun h => by subst h; exact .bl _⟩
def kS : El K Str := ⟨fun _ v n => v = .str n, fun h _ => h, .str, fun h => by subst h; exact .str _⟩
def kO (E : El K α) : El K (Option α) := ⟨fun H v x => match x with | none => v = .non | some y => E.P H v y, fun {H H' v x} h k => by
  cases x with
  | none => exact h
  | some y => exact E.st h k, optD E.d, fun {H v x} h => by
  cases x with
  | none => cases h; exact .non
  | some y => exact E.dp h⟩
/-- a tuple of plain values -/
def kF (f : α → List V) (g : α → List PyData) (hd : ∀ {K : PySem.W.Frag} {H : Hp} (x : α), DpAll K H (f x) (g x)) : El K α := ⟨fun H v x => ∃ t, v = .ref t ∧ H t = some (.tup (f x)), fun ⟨t, e, h⟩ k => ⟨t, e, k t _ h (.inr rfl)⟩, fun x => .tuple (g x), fun ⟨t, e, h⟩ => by
  subst e
  exact .tup (SqT.of h) (hd _)⟩
def kP2 (A : El K α) (B : El K β) : El K (α × β) := ⟨fun H v x => ∃ t u w, v = .ref t ∧ H t = some (.tup [u, w]) ∧ A.P H u x.1 ∧ B.P H w x.2, fun ⟨t, u, w, e, h, a, b⟩ k => ⟨t, u, w, e, k t _ h (.inr rfl), A.st a k, B.st b k⟩, fun x => .tuple [A.d x.1, B.d x.2], fun ⟨t, u, w, e, h, a, b⟩ => by
  subst e
  exact .tup (SqT.of h) (.cons (A.dp a) (.cons (B.dp b) .nil))⟩
def kP3 (A : El K α) (B : El K β) (C : El K γ) : El K (α × β × γ) := ⟨fun H v x => ∃ t u w z, v = .ref t ∧ H t = some (.tup [u, w, z]) ∧ A.P H u x.1 ∧ B.P H w x.2.1 ∧ C.P H z x.2.2, fun ⟨t, u, w, z, e, h, a, b, c⟩ k => ⟨t, u, w, z, e, k t _ h (.inr rfl), A.st a k, B.st b k, C.st c k⟩, fun x => .tuple [A.d x.1, B.d x.2.1, C.d x.2.2], fun ⟨t, u, w, z, e, h, a, b, c⟩ => by
  subst e
  exact .tup (SqT.of h) (.cons (A.dp a) (.cons (B.dp b) (.cons (C.dp c) .nil)))⟩
/-- a tuple of things of one kind -/
theorem sqT_keepI {H H' : Hp} {a : Addr} {xs : List V} (h : SqT K H a xs) (k : KeepI H H') : SqT K H' a xs := by
  rcases h with (h | ⟨o, h⟩) | h
  · exact .inl (.inl (k a _ h (.inr rfl)))
  · exact .inl (.inr ⟨o, k a _ h (.inr rfl)⟩)
  · exact .inr h
def kT (A : El K α) : El K (List α) := ⟨fun H v x => ∃ t us, v = .ref t ∧ SqT K H t us ∧ All2 (A.P H) us x, fun ⟨t, us, e, h, a⟩ k => ⟨t, us, e, sqT_keepI h k, a.imp fun _ _ z => A.st z k⟩, fun x => .tuple (x.map A.d), fun ⟨t, us, e, h, a⟩ => by
  subst e
  exact .tup h (dpAll_of (a.imp fun _ _ z => A.dp z))⟩
/-- v is x, of the kind E -/
def vl (E : El K α) (v : V) (x : α) : HA := ⟨fun H S => E.P H v x ∧ ∀ b, ¬ S b, fun ⟨h, s⟩ k => ⟨E.st h k.i, s⟩, fun ⟨_, s⟩ q => (s _ q).elim⟩
instance {E : El K α} {v : V} {x : α} : Pers (vl E v x) := ⟨fun h q => h.2 _ q⟩
/-- all of vs are the xs, of the kind E -/
def vls (E : El K α) (vs : List V) (xs : List α) : HA := ⟨fun H S => All2 (E.P H) vs xs ∧ ∀ b, ¬ S b, fun ⟨h, s⟩ k => ⟨h.imp fun _ _ z => E.st z k.i, s⟩, fun ⟨_, s⟩ q => (s _ q).elim⟩
instance {E : El K α} {vs : List V} {xs : List α} : Pers (vls E vs xs) := ⟨fun h q => h.2 _ q⟩
/-- a list of things of the kind E stands at l -/
def ls (E : El K α) (l : Addr) (xs : List α) : HA := ⟨fun H S => (∃ vs, H l = some (.lst vs) ∧ All2 (E.P H) vs xs) ∧ ∀ b, S b ↔ b = l, fun {H H' S} ⟨⟨vs, h, a⟩, s⟩ k => ⟨⟨vs, k l _ h (.inl ((s l).mpr rfl)), a.imp fun _ _ z => E.st z k.i⟩, s⟩, fun {H S c} ⟨⟨vs, h, a⟩, s⟩ q => by
  rw [(s c).mp q]
  exact ⟨_, h, rfl⟩⟩
section
variable {E : El K α} {L M R R' : List HA} {l : Addr} {xs ys : List α} {vs : List V} {v : V} {x y : α} {Q : VK} {φ : Hp → Prop} {H : Hp}
/-- opened: its values -/
theorem Sub.ls_e (f : ∀ vs, Sub (pt l (.lst vs) :: vls E vs xs :: L) M) : Sub (ls E l xs :: L) M := fun H S ⟨S1, S2, ⟨⟨vs, h, a⟩, s⟩, h2, hd, hs⟩ =>
  f vs H S ⟨S1, S2, ⟨h, rfl, s⟩, ⟨fun _ => False, S2, ⟨a, fun _ q => q⟩, h2, fun _ q => q.elim, fun a => ⟨.inr, fun z => z.elim (fun z => z.elim) id⟩⟩, hd, hs⟩
theorem Ent.ls_e (e : ∀ vs, vs.length = xs.length → Ent (pt l (.lst vs) :: vls E vs xs :: L) φ) : Ent (ls E l xs :: L) φ := fun H ⟨S, S1, S2, ⟨⟨vs, h, a⟩, s⟩, h2, hd, hs⟩ =>
  e vs a.len H ⟨S, S1, S2, ⟨h, rfl, s⟩, ⟨fun _ => False, S2, ⟨a, fun _ q => q⟩, h2, fun _ q => q.elim, fun a => ⟨.inr, fun z => z.elim (fun z => z.elim) id⟩⟩, hd, hs⟩
/-- closed again -/
theorem Sub.ls_i (a : ∀ H, Holds L H → All2 (E.P H) vs xs) : Sub (pt l (.lst vs) :: L) (ls E l xs :: L) := fun H S ⟨S1, S2, ⟨h, i, s⟩, h2, hd, hs⟩ =>
  ⟨S, ⟨S1, S2, ⟨⟨vs, h, a H ⟨S2, h2⟩⟩, s⟩, h2, hd, hs⟩, fun _ q => q⟩
theorem Take.vl (t : Take (vl E v x) L R) (h : Holds L H) : E.P H v x := by
  obtain ⟨S, S1, S2, h1, _⟩ := t.to h
  exact h1.1
theorem Take.vls (t : Take (vls E vs xs) L R) (h : Holds L H) : All2 (E.P H) vs xs := by
  obtain ⟨S, S1, S2, h1, _⟩ := t.to h
  exact h1.1
theorem Take.ls (t : Take (ls E l xs) L R) (h : Holds L H) : ∃ vs, H l = some (.lst vs) ∧ All2 (E.P H) vs xs := by
  obtain ⟨S, S1, S2, h1, _⟩ := t.to h
  exact h1.1
theorem Holds.vl (h : Holds L H) (e : E.P H v x) : Holds (vl E v x :: L) H := by
  obtain ⟨S, h⟩ := h
  exact ⟨S, fun _ => False, S, ⟨e, fun b q => q⟩, h, fun b e q => e, fun b => ⟨.inr, fun z => z.elim (fun z => z.elim) id⟩⟩
theorem Holds.vls (h : Holds L H) (e : All2 (E.P H) vs xs) : Holds (vls E vs xs :: L) H := by
  obtain ⟨S, h⟩ := h
  exact ⟨S, fun _ => False, S, ⟨e, fun b q => q⟩, h, fun b e q => e, fun b => ⟨.inr, fun z => z.elim (fun z => z.elim) id⟩⟩
theorem Holds.ls_mk (h : Holds (pt l (.lst vs) :: R) H) (e : All2 (E.P H) vs ys) : Holds (ls E l ys :: R) H := by
  obtain ⟨S, S1, S2, ⟨h0, _, s⟩, h2⟩ := h
  exact ⟨S, S1, S2, ⟨⟨vs, h0, e⟩, s⟩, h2⟩
theorem Holds.ls_op (h : Holds (ls E l xs :: R) H) : ∃ ws, Holds (pt l (.lst ws) :: R) H ∧ All2 (E.P H) ws xs := by
  obtain ⟨S, S1, S2, ⟨⟨ws, h0, a⟩, s⟩, h2⟩ := h
  exact ⟨ws, ⟨S, S1, S2, ⟨h0, rfl, s⟩, h2⟩, a⟩
theorem keepI_upd {a : Addr} {o u : HO} (h : H a = some o) (i : Imm o = false) : KeepI H (L2.upd H a u) := fun b ob e q => by
  have n : b ≠ a := by
    rintro rfl
    rw [h] at e
    cases e
    rcases q with q | q
    · exact q.elim
    · rw [i] at q; cases q
  rw [upd_ne n]
  exact e
theorem keepI_new {a : Addr} {u : HO} (h : H a = none) : KeepI H (L2.upd H a u) := fun b ob e q => by
  rw [upd_ne (ne_of_none e h)]
  exact e
/-- the list's content replaced -/
theorem Holds.ls_upd (h : Holds (ls E l xs :: R) H) (e : All2 (E.P H) vs ys) : Holds (ls E l ys :: R) (L2.upd H l (.lst vs)) := by
  obtain ⟨ws, h1, _⟩ := h.ls_op
  have k : KeepI H (L2.upd H l (.lst vs)) := keepI_upd h1.pt_get rfl
  exact (h1.upd rfl).ls_mk (e.imp fun _ _ z => E.st z k)
theorem Holds.ls_new {p : Addr} (h : Holds L H) (n : H p = none) (e : All2 (E.P H) vs xs) : Holds (ls E p xs :: L) (L2.upd H p (.lst vs)) := (h.new n rfl).ls_mk (e.imp fun _ _ z => E.st z (keepI_new n))
theorem Holds.keep_vl (h : Holds (pt l (.lst vs) :: R) H) (e : E.P H v x) {u : HO} : E.P (L2.upd H l u) v x := E.st e (keepI_upd h.pt_get rfl)
/-! steps -/
theorem hasL_ls (t : Take (ls E l xs) L R) (h : Holds L H) : ∃ vs, SqL K H l vs ∧ All2 (E.P H) vs xs := by
  obtain ⟨vs, h1, h2⟩ := t.ls h
  exact ⟨vs, SqL.of h1, h2⟩
theorem e_lenLs (t : Take (ls E l xs) L R) (q : Ent L (Q (.int xs.length))) : Ent L fun H => rLenK K [.ref l] H Q := fun H k => by
  obtain ⟨vs, h1, h2⟩ := hasL_ls t k
  exact ⟨l, vs, rfl, .inl h1, by rw [h2.len]; exact q H k⟩
theorem e_tyLs {φ : Hp → Prop} (t : Take (ls E l xs) L R) (q : Ent L φ) : Ent L fun H => tyV K "list" (.ref l) H ∧ φ H := fun H k => by
  obtain ⟨vs, h1, h2⟩ := hasL_ls t k
  exact ⟨.inl ⟨rfl, vs, h1⟩, q H k⟩
theorem e_appLs (t : Take (ls E l xs) L R) (hy : ∀ H, Holds L H → E.P H v y) (hz : xs.length ≤ 100000) (q : Ent (ls E l (xs ++ [y]) :: R) (Q .non)) : Ent L fun H => rAppend (.ref l) [v] H Q := fun H k => by
  obtain ⟨vs, h1, h2⟩ := t.ls k
  exact ⟨l, vs, v, rfl, rfl, h1, by rw [h2.len]; exact Nat.lt_of_le_of_lt hz (by decide), q _ ((t.to k).ls_upd (h2.app (.one (hy H k))))⟩
theorem e_ixLs {i : Int} (t : Take (ls E l xs) L R) (hi : atI xs i = some x) (q : ∀ v, Ent (vl E v x :: L) (Q v)) : Ent L fun H => rIxL K (.ref l) (.int i) H Q := fun H k => by
  obtain ⟨vs, h1, h2⟩ := t.ls k
  have e := h2.len
  unfold atI at hi
  cases j : ixN xs.length i with
  | none => rw [j] at hi; cases hi
  | some j' =>
    rw [j] at hi
    obtain ⟨v, hv, hp⟩ := h2.getR hi
    exact ⟨l, vs, i, v, rfl, rfl, SqL.of h1, by unfold atI; rw [e, j]; exact hv, q v H (k.vl hp)⟩
theorem e_setLs {i : Int} {j : Nat} {φ : Hp → Prop} (t : Take (ls E l xs) L R) (hi : ixN xs.length i = some j) (hy : ∀ H, Holds L H → E.P H v y) (q : Ent (ls E l (xs.set j y) :: R) φ) : Ent L fun H => rSetL (.ref l) (.int i) v H φ := fun H k => by
  obtain ⟨vs, h1, h2⟩ := t.ls k
  exact ⟨l, vs, i, j, rfl, rfl, h1, by rw [h2.len]; exact hi, q _ ((t.to k).ls_upd (h2.set (hy H k) j))⟩
theorem e_popLs {y : α} (t : Take (ls E l xs) L R) (hy : xs[xs.length - 1]? = some y) (q : ∀ v, Ent (vl E v y :: ls E l xs.dropLast :: R) (Q v)) : Ent L fun H => rPop (.ref l) [] H Q := fun H k => by
  obtain ⟨vs, h1, h2⟩ := t.ls k
  have e := h2.len
  obtain ⟨v, hv, hp⟩ := h2.getR hy
  obtain ⟨ws, h3, _⟩ := (t.to k).ls_op
  refine ⟨l, vs, v, rfl, rfl, h1, by rw [e]; exact hv, q v _ (((t.to k).ls_upd ?_).vl (h3.keep_vl hp))⟩
  rw [List.dropLast_eq_take, List.dropLast_eq_take, e]
  exact h2.take _
theorem e_popAtLs {y : α} {i : Int} {j : Nat} (t : Take (ls E l xs) L R) (h0 : -1000000 ≤ i ∧ i ≤ 1000000) (hj : seqIndex? i xs.length = some j) (hy : xs[j]? = some y) (q : ∀ v, Ent (vl E v y :: ls E l (xs.eraseIdx j) :: R) (Q v)) : Ent L fun H => rPopAt (.ref l) [.int i] H Q := fun H k => by
  obtain ⟨vs, h1, h2⟩ := t.ls k
  obtain ⟨v, hv, hp⟩ := h2.getR hy
  obtain ⟨ws, h3, _⟩ := (t.to k).ls_op
  exact ⟨l, vs, i, j, v, rfl, rfl, h1, by omega, by omega, by rw [h2.len]; exact hj, hv, q v _ (((t.to k).ls_upd (h2.eraseIdx j)).vl (h3.keep_vl hp))⟩
theorem e_clearLs (t : Take (ls E l xs) L R) (q : Ent (ls E l [] :: R) (Q .non)) : Ent L fun H => rClear (.ref l) [] H Q := fun H k => by
  obtain ⟨vs, h1, h2⟩ := t.ls k
  exact ⟨l, vs, rfl, rfl, h1, q _ ((t.to k).ls_upd .nil)⟩
theorem All2.cutV {E : El K α} {vs : List V} {xs : List α} {lo hi : Option Int} (h : All2 (E.P H) vs xs) : ∃ a n, L2.cutV vs lo hi = (vs.drop a).take n ∧ a = HT.sIx xs.length 0 lo ∧ n = HT.sIx xs.length xs.length hi - HT.sIx xs.length 0 lo := by
  unfold L2.cutV
  rw [h.len]
  exact ⟨_, _, rfl, rfl, rfl⟩
theorem e_slLs {lo hi : Option Int} (t : Take (ls E l xs) L R) (q : ∀ p, Ent (ls E p (cutA xs lo hi) :: L) (Q (.ref p))) : Ent L fun H => rSlL K (.ref l) lo hi H Q := fun H k => by
  obtain ⟨vs, h1, h2⟩ := t.ls k
  obtain ⟨a, n, e, e2, e3⟩ := h2.cutV (lo := lo) (hi := hi)
  refine ⟨l, vs, rfl, SqL.of h1, fun p np => q p _ (k.ls_new np ?_)⟩
  rw [e, e2, e3]
  exact (h2.drop _).take _
theorem e_revLs (t : Take (ls E l xs) L R) (q : ∀ p, Ent (ls E p xs.reverse :: L) (Q (.ref p))) : Ent L fun H => kRev K Q (.ref l) H := fun H k => by
  obtain ⟨vs, h1, h2⟩ := t.ls k
  exact ⟨l, vs, rfl, SqL.of h1, fun p np => q p _ (k.ls_new np h2.rev)⟩
theorem e_catLs {b : Addr} (t : Take (ls E l xs) L R) (t2 : Take (ls E b ys) L R') (hz : xs.length + ys.length ≤ 100000) (q : ∀ p, Ent (ls E p (xs ++ ys) :: L) (Q (.ref p))) : Ent L fun H => rCat (.ref l) (.ref b) H Q := fun H k => by
  obtain ⟨vs, h1, h2⟩ := t.ls k
  obtain ⟨ws, h3, h4⟩ := t2.ls k
  exact ⟨l, b, vs, ws, rfl, rfl, h1, h3, by rw [h2.len, h4.len]; exact Nat.le_trans hz (by decide), fun p np => q p _ (k.ls_new np (h2.app h4))⟩
theorem e_listLs (t : Take (ls E l xs) L R) (q : ∀ p, Ent (ls E p xs :: L) (Q (.ref p))) : Ent L fun H => rListK K [.ref l] H Q := fun H k => by
  obtain ⟨vs, h1, h2⟩ := t.ls k
  exact ⟨l, vs, rfl, .inl (SqL.of h1), fun p np => q p _ (k.ls_new np h2)⟩
theorem e_tupLs (t : Take (ls E l xs) L R) (q : ∀ p, Ent (vl (kT E) (.ref p) xs :: L) (Q (.ref p))) : Ent L fun H => rTupK K [.ref l] H Q := fun H k => by
  obtain ⟨vs, h1, h2⟩ := t.ls k
  refine ⟨l, vs, rfl, .inl ⟨SqL.of h1, fun p np => q p _ ?_⟩⟩
  have h3 : Holds L (L2.upd H p (.tup vs)) := Sub.to (Sub.drop Sub.refl) (k.newI (o := .tup vs) np rfl)
  exact h3.vl ⟨p, vs, rfl, SqT.of upd_same, h2.imp fun _ _ z => E.st z (keepI_new np)⟩
theorem dpLs (t : Take (ls E l xs) L R) : ∀ H, Holds L H → Dp K H (.ref l) (.list (xs.map E.d)) := fun H k => by
  obtain ⟨vs, h1, h2⟩ := t.ls k
  exact .lst (SqL.of h1) (dpAll_of (h2.imp fun _ _ z => E.dp z))
theorem dpVl (t : Take (vl E v x) L R) : ∀ H, Holds L H → Dp K H v (E.d x) := fun H k => E.dp (t.vl k)
theorem e_eqLs [DecidableEq α] {n : Nat} {a b : Addr} (h : DtOk E.d n) (t : Take (ls E a xs) L R) (t2 : Take (ls E b ys) L R') (q : Ent L (Q (.bl (decide (xs = ys))))) (hn : n + 1 ≤ 64 := by decide) : Ent L fun H => rEqD K (.ref a) (.ref b) H Q := e_eqD h.list (dpLs t) (dpLs t2) q hn
theorem e_neLs [DecidableEq α] {n : Nat} {a b : Addr} (h : DtOk E.d n) (t : Take (ls E a xs) L R) (t2 : Take (ls E b ys) L R') (q : Ent L (Q (.bl (!decide (xs = ys))))) (hn : n + 1 ≤ 64 := by decide) : Ent L fun H => rNeD K (.ref a) (.ref b) H Q := e_neD h.list (dpLs t) (dpLs t2) q hn
/-- a loop over such a list: the list stands in Pv -/
theorem e_listLs' {β : Type} {g : TG} {tb : TS} {σ : St} {nx bk ct : St → Hp → Prop} {rt : VK} (sg : Nat → β → St) (Pv : Nat → β → List HA) (b0 : β) (h0 : σ = sg 0 b0) (s0 : Sub L (Pv 0 b0)) (hl : ∀ i b, ∃ R, Take (ls E l xs) (Pv i b) R)
    (hs : ∀ i x v b, xs[i]? = some x → Ent (vl E v x :: Pv i b) fun H => g v (sg i b) H fun σ2 H2 => tb ⟨fun σ' H' => ∃ b, σ' = sg (i + 1) b ∧ Holds (Pv (i + 1) b) H', rt, nx, fun σ' H' => ∃ b, σ' = sg (i + 1) b ∧ Holds (Pv (i + 1) b) H'⟩ σ2 H2)
    (hd : ∀ b, Ent (Pv xs.length b) (nx (sg xs.length b))) : Ent L fun H => kFL K g tb ⟨nx, rt, bk, ct⟩ σ (.ref l) H := fun H k => by
  have w : Walk (Itl K l) xs.length (fun H => ∃ vs, H l = some (.lst vs) ∧ All2 (E.P H) vs xs) (fun i H x H' => H' = H ∧ ∃ e, xs[i]? = some e ∧ E.P H x e) :=
    ⟨fun i H hi ⟨vs, h1, h2⟩ => by
      obtain ⟨v, hv, _⟩ := h2.getR (List.getElem?_eq_getElem hi)
      exact ⟨vs, v, SqL.of h1, hv⟩, fun H ⟨vs, h1, h2⟩ => ⟨vs, SqL.of h1, Nat.le_of_eq h2.len⟩, fun i H x H' hi ⟨vs, h1, h2⟩ ⟨e, y⟩ => ⟨e, h2.get (y vs (SqL.of h1))⟩⟩
  obtain ⟨R0, t0⟩ := hl 0 b0
  obtain ⟨vs, h1, h2⟩ := t0.ls (s0.to k)
  have z := for_it w (D := ⟨nx, rt, bk, ct⟩) (g := g) (tb := tb) (σ := σ) (H := H) (fun i σ' H' => ∃ b, σ' = sg i b ∧ Holds (Pv i b) H') ⟨b0, h0, s0.to k⟩ (fun i σ' H' _ ⟨b, _, z⟩ => by
    obtain ⟨R, t⟩ := hl i b
    exact t.ls z) (fun i x σ' H' H'' hi ⟨b, e, z⟩ ⟨e2, y, hy, hp⟩ => by subst e e2; exact hs i y x b hy H'' (z.vl hp)) (fun σ' H' ⟨b, e, z⟩ => by subst e; exact hd b H' z)
  have h3 : H l = some (.lst vs) := h1
  exact ⟨l, rfl, ⟨vs, SqL.of h3⟩, z⟩
theorem walk_ls (l : Addr) (xs : List α) : Walk (Itl K l) xs.length (fun H => ∃ vs, H l = some (.lst vs) ∧ All2 (E.P H) vs xs) (fun i H x H' => H' = H ∧ ∃ e, xs[i]? = some e ∧ E.P H x e) :=
  ⟨fun i H hi ⟨vs, h1, h2⟩ => by
    obtain ⟨v, hv, _⟩ := h2.getR (List.getElem?_eq_getElem hi)
    exact ⟨vs, v, SqL.of h1, hv⟩, fun H ⟨vs, h1, h2⟩ => ⟨vs, SqL.of h1, Nat.le_of_eq h2.len⟩, fun i H x H' hi ⟨vs, h1, h2⟩ ⟨e, y⟩ => ⟨e, h2.get (y vs (SqL.of h1))⟩⟩
/-- a comprehension over such a list, what it makes told by another kind -/
theorem e_lcLs {β : Type} {σ : St} {g : TG} {tt : TT} {te : TE} {vs : List Nat} (E' : El K β) (kp : α → Option β) (t : Take (ls E l xs) L R) (hz : xs.length ≤ 100000)
    (step : ∀ x, x ∈ xs → ∀ v D ys (r : VK) (s : Hp → Prop), (∀ v' y, kp x = some y → Ent (vl E' v' y :: ls E' D ys :: L) (r v')) → (kp x = none → Ent (ls E' D ys :: L) s) → Ent (vl E v x :: ls E' D ys :: L) fun H => g v (wipe σ vs) H fun σ2 H2 => wipe σ2 vs = wipe σ vs ∧ tt σ2 H2 fun b H3 => if b = true then te σ2 H3 r else s H3)
    (q : ∀ D, Ent (ls E' D (xs.filterMap kp) :: L) (Q (.ref D))) : Ent L fun H => kLc K g tt te vs σ Q (.ref l) H := fun H k => by
  obtain ⟨ws, h1, h2⟩ := t.ls k
  refine ⟨l, rfl, ⟨ws, SqL.of h1⟩, fun D nD => ?_⟩
  refine lc_it (walk_ls (E := E) l xs) (fun i H' => i ≤ xs.length ∧ Holds (ls E' D ((xs.take i).filterMap kp) :: L) H') ⟨Nat.zero_le _, k.ls_new nD .nil⟩ (fun i H' _ p => t.ls (Sub.to (Sub.drop Sub.refl) p.2)) (fun i v H' H'' hi p ⟨e, x, hx, hp⟩ => ?_) (fun H' p => q D H' (by
    have e := p.2
    rw [List.take_length] at e
    exact e))
  subst e
  have et : xs.take (i + 1) = xs.take i ++ [x] := by rw [List.take_succ, hx]; rfl
  refine step x (List.mem_of_getElem? hx) v D _ _ _ (fun v' y hy H4 z => ?_) (fun hn H3 z => ?_) _ (p.2.vl hp)
  · obtain ⟨ac, z1, z2⟩ := Holds.ls_op (Sub.to (Sub.drop Sub.refl) z)
    have z3 : E'.P H4 v' y := Take.vl take_here z
    refine ⟨ac, z1.pt_get, ?_, hi, ?_⟩
    · rw [z2.len]
      refine Nat.lt_of_le_of_lt (List.length_filterMap_le _ _) (Nat.lt_of_le_of_lt ?_ (by decide : 100000 < sizeLine))
      rw [List.length_take]
      omega
    · rw [et, List.filterMap_append]
      simp only [List.filterMap_cons, hy, List.filterMap_nil]
      exact Holds.ls_upd (Sub.to (Sub.drop Sub.refl) z) (z2.app (.one z3))
  · refine ⟨hi, ?_⟩
    rw [et, List.filterMap_append]
    simp only [List.filterMap_cons, hn, List.filterMap_nil, List.append_nil]
    exact z
theorem all2_maps {γ δ ε : Type} {r : γ → δ → Prop} {f : γ → ε} {g : δ → ε} (e : ∀ x y, r x y → f x = g y) : ∀ {xs : List γ} {ys : List δ}, All2 r xs ys → xs.map f = ys.map g
  | _, _, .nil => rfl
  | _, _, .cons h t => by rw [List.map_cons, List.map_cons, e _ _ h, all2_maps e t]
theorem all2_int : ∀ {vs : List V} {ns : List Int}, All2 (fun v (n : Int) => v = .int n) vs ns → vs = ns.map V.int
  | _, _, .nil => rfl
  | _, _, .cons h t => by rw [List.map_cons, h, all2_int t]
/-- ints, texts as such a list, and back -/
theorem Sub.lsI {ns : List Int} : Sub (pt l (.lst (ns.map V.int)) :: L) (ls (K := K) kI l ns :: L) := Sub.ls_i fun H h => All2.map _ fun y _ => rfl
theorem Sub.Ils {ns : List Int} : Sub (ls (K := K) kI l ns :: L) (pt l (.lst (ns.map V.int)) :: L) := Sub.ls_e fun vs H S h => by
  obtain ⟨S1, S2, h1, ⟨S3, S4, h3, h4⟩, hd, hs⟩ := h
  have e : vs = ns.map V.int := all2_int h3.1
  subst e
  exact (Sub.cons (Sub.drop Sub.refl)) H S ⟨S1, S2, h1, ⟨S3, S4, h3, h4⟩, hd, hs⟩
theorem take_lsI {ns : List Int} (t : Take (pt l (.lst (ns.map V.int))) L R) : Take (ls (K := K) kI l ns) L R := Sub.trans t Sub.lsI
theorem take_Ils {ns : List Int} (t : Take (ls (K := K) kI l ns) L R) : Take (pt l (.lst (ns.map V.int))) L R := Sub.trans t Sub.Ils
/-- what is made of two, three -/
theorem Ent.vI {n : Int} {φ : V → Hp → Prop} (q : Ent L (φ (.int n))) (v : V) : Ent (vl (K := K) kI v n :: L) (φ v) := fun H ⟨S, S1, S2, h1, h2, _⟩ => by
  obtain rfl : v = .int n := h1.1
  exact q H ⟨S2, h2⟩
theorem Ent.vF {f : α → List V} {g : α → List PyData} {hd : ∀ {K : PySem.W.Frag} {H : Hp} (x : α), DpAll K H (f x) (g x)} {φ : V → Hp → Prop} (q : ∀ t, Ent (tu t (f x) :: L) (φ (.ref t))) (v : V) : Ent (vl (K := K) (kF f g hd) v x :: L) (φ v) := fun H ⟨S, S1, S2, ⟨⟨t, e, h⟩, s⟩, h2, hd, hs⟩ => by
  subst e
  exact q t H (Holds.addI ⟨S2, h2⟩ h rfl)
theorem Ent.vT {us : List V} {φ : Hp → Prop} (h : ∀ H, E.P H v x → ∃ t, v = .ref t ∧ H t = some (.tup us)) (q : ∀ t, v = .ref t → Ent (tu t us :: L) φ) : Ent (vl E v x :: L) φ := fun H ⟨S, S1, S2, ⟨h0, s⟩, h2, hd, hs⟩ => by
  obtain ⟨t, e, h⟩ := h H h0
  exact q t e H (Holds.addI ⟨S2, h2⟩ h rfl)
theorem Ent.vIe {n : Int} {φ : Hp → Prop} (q : v = .int n → Ent L φ) : Ent (vl (K := K) kI v n :: L) φ := fun H ⟨S, S1, S2, h1, h2, _⟩ => q h1.1 H ⟨S2, h2⟩
theorem vl_I {n : Int} : ∀ H, Holds L H → (kI (K := K)).P H (.int n) n := fun _ _ => rfl
theorem vl_F {f : α → List V} {g : α → List PyData} {hd : ∀ {K : PySem.W.Frag} {H : Hp} (x : α), DpAll K H (f x) (g x)} {t : Addr} {us : List V} (k : Take (tu t us) L R) (e : us = f x) : ∀ H, Holds L H → (kF (K := K) f g hd).P H (.ref t) x := fun H h => ⟨t, rfl, by rw [← e]; exact k.im h⟩
theorem vl_T {t : Addr} {us : List V} (k : Take (tu t us) L R) (e : ∀ H, H t = some (.tup us) → E.P H (.ref t) x) : ∀ H, Holds L H → E.P H (.ref t) x := fun H h => e H (k.im h)
theorem vl_v (k : Take (vl E v x) L R) : ∀ H, Holds L H → E.P H v x := fun H h => k.vl h
theorem vl_non : ∀ H, Holds L H → (kO E).P H .non none := fun _ _ => rfl
theorem Sub.one {t : Addr} {D : Addr} (k : ∀ H, Holds L H → E.P H v x) : Sub (pt D (.lst [v]) :: L) (ls E D [x] :: L) := Sub.ls_i fun H h => .one (k H h)
theorem take_eqLs {D : Addr} (e : xs = ys) (t : Take (ls E D xs) L R) : Take (ls E D ys) L R := e ▸ t
theorem take_eqVl (e : x = y) (t : Take (vl E v x) L R) : Take (vl E v y) L R := e ▸ t
theorem Sub.vl_i (h : ∀ H, Holds L H → E.P H v x) (s : Sub L M) : Sub L (vl E v x :: M) := fun H S k => by
  obtain ⟨S', k', q⟩ := s H S k
  exact ⟨S', ⟨fun _ => False, S', ⟨h H ⟨S, k⟩, fun _ z => z⟩, k', fun _ z => z.elim, fun a => ⟨.inr, fun z => z.elim (fun z => z.elim) id⟩⟩, q⟩
theorem take_ls0 {D : Addr} (t : Take (pt D (.lst [])) L R) : Take (ls E D []) L R := Sub.trans t (Sub.ls_i fun H h => .nil)
theorem take_ls1 {D : Addr} (t : Take (pt D (.lst [v])) L R) (k : ∀ H, Holds R H → E.P H v x) : Take (ls E D [x]) L R := Sub.trans t (Sub.ls_i fun H h => .one (k H h))
theorem Sub.none_ls {D : Addr} : Sub (pt D (.lst []) :: L) (ls E D [] :: L) := Sub.ls_i fun H h => .nil
end
end
end Toy
namespace Toy
open PySem L2
section
variable {K : PySem.W.Frag} {L M R : List HA} {σ : St} {Q : VK} {ta : TE} {tas tk : TA} {sp : Sp} {E : XK} {C : Addr} {m : Str}
theorem e_call1 (q : Ent L fun H => tas σ H fun vs H1 => sp vs H1 Q E) : Ent L fun H => tCall sp [] E tas σ H Q := by
  have e : (fun (vs : List V) (H1 : Hp) => sp (vs ++ []) H1 Q E) = fun vs H1 => sp vs H1 Q E := by funext vs H1; rw [List.append_nil]
  show Ent L fun H => tas σ H (fun vs H1 => sp (vs ++ []) H1 Q E)
  rw [e]; exact q
theorem e_meth1 (q : Ent L fun H => ta σ H fun x H1 => ∃ a dx fs, x = .ref a ∧ H1 a = some (.ins C dx fs) ∧ fs.lookup m = none ∧ tas σ H1 fun vs H2 => sp (x :: vs) H2 Q E) : Ent L fun H => tMeth C m sp [] E ta tas σ H Q := by
  have e : ∀ x : V, (fun (vs : List V) (H1 : Hp) => sp (x :: (vs ++ [])) H1 Q E) = fun vs H1 => sp (x :: vs) H1 Q E := fun x => by funext vs H1; rw [List.append_nil]
  show Ent L fun H => ta σ H fun x H1 => ∃ a dx fs, x = .ref a ∧ H1 a = some (.ins C dx fs) ∧ fs.lookup m = none ∧ tas σ H1 fun vs H2 => sp (x :: (vs ++ [])) H2 Q E
  simp only [e]; exact q
/-! ### the pot -/
def PotA (p : Addr) : HA := ex fun x : Int => ex fun y : Int => all [pt p (.lst [.int x, .int y]), pu (0 ≤ x ∧ 0 ≤ y ∧ y < 4294967296)]
theorem Sub.pot {L : List HA} {p : Addr} {x y : Int} (h : 0 ≤ x ∧ 0 ≤ y ∧ y < 4294967296) : Sub (pt p (.lst [.int x, .int y]) :: L) (PotA p :: L) := Sub.ex x (Sub.ex y (Sub.all (Sub.cons (Sub.pu h Sub.refl))))
theorem Ent.pot {L : List HA} {p : Addr} {φ : Hp → Prop} (e : ∀ x y : Int, 0 ≤ x → 0 ≤ y → y < 4294967296 → Ent (pt p (.lst [.int x, .int y]) :: L) φ) : Ent (PotA p :: L) φ := Ent.ex fun x => Ent.ex fun y => Ent.all (Ent.sub Sub.swap (Ent.pu fun ⟨h1, h2, h3⟩ => e x y h1 h2 h3))
def aPot (K : PySem.W.Frag) : Sp := fun vs H Q _ => ∃ (s : Addr) (ns : List Int) (k : Int) (F : List HA), vs = [.ref s, .int k] ∧ Holds (sq K s (ns.map V.int) :: F) H ∧ 0 ≤ k ∧ k ≤ 1000 ∧ ∀ p, Ent (PotA p :: sq K s (ns.map V.int) :: F) (Q (.ref p))
def aDraw : Sp := fun vs H Q _ => ∃ (p : Addr) (n : Int) (F : List HA), vs = [.ref p, .int n] ∧ Holds (PotA p :: F) H ∧ 0 < n ∧ n < 1000000000 ∧ ∀ d, 0 ≤ d → d < n → Ent (PotA p :: F) (Q (.int d))
def aPick (K : PySem.W.Frag) : Sp := fun vs H Q _ => ∃ (p s : Addr) (n : Nat) (F : List HA) (G : Nat → V → List HA), vs = [.ref p, .ref s] ∧ Holds (PotA p :: F) H ∧ 0 < n ∧ n < 1000000000 ∧
  (∀ H, Holds (PotA p :: F) H → ∃ us, us.length = n ∧ SqL K H s us ∧ ∀ d v, us[d]? = some v → Holds (G d v) H) ∧ ∀ d v, d < n → Ent (G d v) (Q v)
variable {p s : Addr} {ns : List Int} {k n : Int}
theorem e_pot (t : Take (sq K s (ns.map V.int)) L R) (h0 : 0 ≤ k) (h1 : k ≤ 1000) (q : ∀ p, Ent (PotA p :: sq K s (ns.map V.int) :: R) (Q (.ref p))) : Ent L fun H => aPot K [.ref s, .int k] H Q E := fun H h => ⟨s, ns, k, R, rfl, t.to h, h0, h1, q⟩
theorem e_draw (t : Take (PotA p) L R) (h0 : 0 < n) (h1 : n < 1000000000) (q : ∀ d, 0 ≤ d → d < n → Ent (PotA p :: R) (Q (.int d))) : Ent L fun H => aDraw [.ref p, .int n] H Q E := fun H h => ⟨p, n, R, rfl, t.to h, h0, h1, q⟩
theorem e_pick {us : List V} (t : Take (PotA p) L R) (hl : HasL K R s us) (h0 : 0 < us.length) (h1 : us.length < 1000000000) (q : ∀ (d : Nat) v, us[d]? = some v → Ent (PotA p :: R) (Q v)) : Ent L fun H => aPick K [.ref p, .ref s] H Q E := fun H h =>
  ⟨p, s, us.length, R, fun d v => [pu (us[d]? = some v), all (PotA p :: R)], rfl, t.to h, h0, h1, fun H h => ⟨us, rfl, hl H (Sub.to (Sub.drop Sub.refl) h), fun d v e => Sub.to (Sub.pu e (Sub.all (by show Sub _ ((PotA p :: R) ++ []); rw [List.append_nil]; exact Sub.refl))) h⟩, fun d v _ => Ent.pu fun e => Ent.all (by rw [List.append_nil]; exact q d v e)⟩
theorem e_pickLs {α : Type} {El : El K α} {xs : List α} {R' : List HA} (t : Take (PotA p) L R) (hl : Take (ls El s xs) R R') (h0 : 0 < xs.length) (h1 : xs.length < 1000000000) (q : ∀ (d : Nat) x v, xs[d]? = some x → Ent (vl El v x :: PotA p :: R) (Q v)) : Ent L fun H => aPick K [.ref p, .ref s] H Q E := fun H h =>
  ⟨p, s, xs.length, R, fun d v => [ex fun x => all [pu (xs[d]? = some x), vl El v x, all (PotA p :: R)]], rfl, t.to h, h0, h1, fun H h => by
    obtain ⟨us, h1, h2⟩ := hl.ls (Sub.to (Sub.drop Sub.refl) h)
    refine ⟨us, h2.len, SqL.of h1, fun d v e => ?_⟩
    obtain ⟨x, hx, hp⟩ := h2.get e
    exact Sub.to (Sub.ex x (Sub.all (Sub.pu hx (Sub.cons (Sub.all (by show Sub _ ((PotA p :: R) ++ []); rw [List.append_nil]; exact Sub.refl)))))) (h.vl hp), fun d v _ => Ent.ex fun x => Ent.all (Ent.pu fun e => (by
    refine Ent.sub (M := vl El v x :: PotA p :: R) (Sub.cons ?_) (q d x v e)
    refine Sub.trans Sub.all_e ?_
    show Sub ((PotA p :: R) ++ []) _
    rw [List.append_nil]
    exact Sub.refl))⟩
/-! ### what is asked of plain values -/
variable {v : V} {b : Bool} {x y z u : Int}
theorem e_isInt (h : KInt K (fun _ => none) v b) (q : Ent L (Q (.bl b))) : True := trivial
theorem kintI {H : Hp} (n : Int) : KInt K H (.int n) true := kint_int n
theorem e_integer (q : Ent L (Q (.bl true))) : Ent L fun H => spInt K [.int x] H Q E := fun H h => ⟨_, _, rfl, kint_int x, q H h⟩
theorem e_count (q : Ent L (Q (.bl (decide (0 ≤ x))))) : Ent L fun H => spCount K [.int x] H Q E := fun H h => ⟨_, rfl, kint_int x, q H h⟩
theorem e_isWord (q : Ent L (Q (.bl (isWord (.int x))))) : Ent L fun H => spIsWord K [.int x] H Q E := fun H h => ⟨_, rfl, kint_int x, q H h⟩
theorem e_wantWord (h : W16 x) (q : Ent L (Q .non)) : Ent L fun H => spWantWord K C [.int x] H Q E := fun H k => w_wantWord h (q H k)
theorem e_wantMany {lo hi : Int} (h0 : 0 ≤ x) (h1 : lo ≤ x) (h2 : x ≤ hi) (q : Ent L (Q .non)) : Ent L fun H => spWantMany K C [.int x, .int lo, .int hi] H Q E := fun H k => w_wantMany h0 h1 h2 (q H k)
theorem e_W2 {f : Int → Int → Int} {ok : Int → Int → Prop} (h : ok x y) (q : Ent L (Q (.int (f x y)))) : Ent L fun H => spW2 f ok [.int x, .int y] H Q E := fun H k => ⟨x, y, rfl, h, q H k⟩
theorem e_I1 {f : Int → Int} {ok : Int → Prop} (h : ok x) (q : Ent L (Q (.int (f x)))) : Ent L fun H => spI1 f ok [.int x] H Q E := fun H k => ⟨x, rfl, h, q H k⟩
theorem e_I3 {f : Int → Int → Int → Int} {ok : Int → Int → Int → Prop} (h : ok x y z) (q : Ent L (Q (.int (f x y z)))) : Ent L fun H => spI3 f ok [.int x, .int y, .int z] H Q E := fun H k => ⟨x, y, z, rfl, h, q H k⟩
theorem e_I4 {f : Int → Int → Int → Int → Int} {ok : Int → Int → Int → Int → Prop} (h : ok x y z u) (q : Ent L (Q (.int (f x y z u)))) : Ent L fun H => spI4 f ok [.int x, .int y, .int z, .int u] H Q E := fun H k => ⟨x, y, z, u, rfl, h, q H k⟩
/-- a number asked for: True where ok; a def that returns a bool of ints -/
def aB1 (f : Int → Bool) : Sp := fun vs H Q _ => ∃ x : Int, vs = [.int x] ∧ Q (.bl (f x)) H
def aW1 (ok : Int → Prop) : Sp := fun vs H Q _ => ∃ x : Int, vs = [.int x] ∧ ok x ∧ Q .non H
theorem e_B1 {f : Int → Bool} (q : Ent L (Q (.bl (f x)))) : Ent L fun H => aB1 f [.int x] H Q E := fun H k => ⟨x, rfl, q H k⟩
theorem e_W1 {ok : Int → Prop} (h : ok x) (q : Ent L (Q .non)) : Ent L fun H => aW1 ok [.int x] H Q E := fun H k => ⟨x, rfl, h, q H k⟩
end
end Toy
namespace Toy
open PySem L2
/-! ### repr of plain values -/
def shV : V → Str
  | .non => "None"
  | .bl b => if b then "True" else "False"
  | .int i => toString i
  | .str x => reprText x
  | _ => ""
def okS : V → Prop
  | .non => True
  | .bl _ => True
  | .int i => i.natAbs.log2 < 1920
  | .str x => (reprText x).length ≤ sizeLine
  | _ => False
def rReprS : List V → Hp → VK → Prop := fun vs H Q => ∃ v, vs = [v] ∧ okS v ∧ Q (.str (shV v)) H
section
open PySem.Spec PyProof.Rows
theorem call_reprS {X : Cx} : CallR X (.builtin "repr") rReprS := by
  intro pins s σ H xs us Q I r h
  obtain ⟨v, rfl, ok, q⟩ := h
  obtain ⟨u, rfl, rx⟩ := vals1 r
  cases v with
  | non => cases rx; exact PySem.P.repr_of_none ⟨.str _, H, I.tok _, ⟨_, rfl⟩, q⟩
  | bl b => cases rx; exact PySem.P.repr_of_bool ⟨.str _, H, I.tok _, ⟨_, rfl⟩, q⟩
  | int i => obtain ⟨t, rfl⟩ := rx; exact PySem.P.repr_of_int ok ⟨.str _, H, I.tok _, ⟨_, rfl⟩, q⟩
  | str x => obtain ⟨t, rfl⟩ := rx; exact PySem.P.repr_of_str ⟨.str _, H, I.tok _, ⟨_, rfl⟩, q⟩ ok
  | byt _ => exact ok.elim
  | flt _ => exact ok.elim
  | ref _ => exact ok.elim
  | ty _ => exact ok.elim
end
theorem small_log {i : Int} (h : i.natAbs < 2 ^ 64) : i.natAbs.log2 < 1920 := by
  by_cases z : i.natAbs = 0
  · rw [z]; decide
  · have := (Nat.log2_lt z).mpr h
    omega
section
variable {K : PySem.W.Frag} {L M R : List HA} {Q : VK} {a b : Addr} {v : V}
theorem e_reprN (q : Ent L (Q (.str "None"))) : Ent L fun H => rReprS [.non] H Q := fun H k => ⟨_, rfl, trivial, q H k⟩
theorem e_reprB {b : Bool} (q : Ent L (Q (.str (if b then "True" else "False")))) : Ent L fun H => rReprS [.bl b] H Q := fun H k => ⟨_, rfl, trivial, q H k⟩
theorem e_reprI {i : Int} (h : -1000000000000 ≤ i ∧ i ≤ 1000000000000) (q : Ent L (Q (.str (toString i)))) : Ent L fun H => rReprS [.int i] H Q := fun H k => ⟨_, rfl, small_log (by omega), q H k⟩
theorem truth_ne : ¬ (("True" : Str) = "False") := by decide +kernel
theorem e_neB {b c : Bool} (q : Ent L (Q (.bl (b != c)))) : Ent L fun H => rNe (.str (if b then "True" else "False")) (.str (if c then "True" else "False")) H Q := fun H k => ⟨rfl, by
  have e : decide (V.str (if b then "True" else "False") = V.str (if c then "True" else "False")) = (b == c) := by
    cases b <;> cases c <;> simp [truth_ne, Ne.symm truth_ne]
  rw [e]
  exact q H k⟩
end
/-! ### walks that make pairs -/
section
variable {K : PySem.W.Frag} {L M R : List HA} {Q : VK} {l : Addr} {α β : Type} {E : El K α} {σ : St}
def kLcEn (K : PySem.W.Frag) (g : TG) (tt : TT) (te : TE) (vs : List Nat) (σ : St) (Q : VK) (us : List V) (H : Hp) : Prop := kEnum K (fun J H1 => ∀ D, H1 D = none → ∃ W : Nat → Nat → Hp → Prop, (∃ m, W 0 m (upd H1 D (.lst []))) ∧ ∀ i m H, W i m H →
      (J.stop i H ∧ Q (.ref D) H) ∨ (J.go i H ∧ ∃ Nx : Hp → Prop, (∀ H', Nx H' → ∃ m', m' < m ∧ W (i + 1) m' H') ∧ ∀ x H', J.yld i H x H' → g x (wipe σ vs) H' fun σ2 H2 => wipe σ2 vs = wipe σ vs ∧ tt σ2 H2 fun b H3 =>
        if b = true then te σ2 H3 fun y H4 => ∃ acc, H4 D = some (.lst acc) ∧ acc.length < sizeLine ∧ Nx (upd H4 D (.lst (acc ++ [y]))) else Nx H3)) us H
theorem e_lcE0 {g : TG} {tt : TT} {te : TE} {vs : List Nat} {tas : TA} (q : Ent L fun H => tas σ H (kLcEn K g tt te vs σ Q)) : Ent L fun H => tLc (iEnum K tas) g tt te vs σ H Q := q
/-- [.. for i, x in enumerate(l) if ..] -/
theorem e_lcEn {xs : List α} {g : TG} {tt : TT} {te : TE} {vs : List Nat} (E' : El K β) (kp : Nat → α → Option β) (t : Take (ls E l xs) L R) (hz : xs.length ≤ 100000)
    (step : ∀ i x, xs[i]? = some x → ∀ p v D ys (r : VK) (s : Hp → Prop), (∀ v' y, kp i x = some y → Ent (vl E' v' y :: ls E' D ys :: L) (r v')) → (kp i x = none → Ent (ls E' D ys :: L) s) → Ent (tu p [.int i, v] :: vl E v x :: ls E' D ys :: L) fun H => g (.ref p) (wipe σ vs) H fun σ2 H2 => wipe σ2 vs = wipe σ vs ∧ tt σ2 H2 fun b H3 => if b = true then te σ2 H3 r else s H3)
    (q : ∀ D, Ent (ls E' D ((List.range xs.length).filterMap fun i => xs[i]?.bind (kp i)) :: L) (Q (.ref D))) : Ent L fun H => kLcEn K g tt te vs σ Q [.ref l] H := fun H k => by
  obtain ⟨ws, h1, h2⟩ := t.ls k
  refine ⟨l, ws, rfl, SqL.of h1, fun D nD => ?_⟩
  have w : Walk (Ite K l) xs.length (fun H => ∃ vs, H l = some (.lst vs) ∧ All2 (E.P H) vs xs) (fun i H v H' => ∃ T x u, v = .ref T ∧ H T = none ∧ H' = upd H T (.tup [.int i, u]) ∧ xs[i]? = some x ∧ E.P H u x) :=
    ⟨fun i H hi ⟨vs, z1, z2⟩ => (walk_enum (K := K) (a := l) (xs := vs)).goes i H (by rw [z2.len]; exact hi) (SqL.of z1), fun H ⟨vs, z1, z2⟩ => by
      have := (walk_enum (K := K) (a := l) (xs := vs)).stops H (SqL.of z1)
      rw [z2.len] at this
      exact this, fun i H x H' hi ⟨vs, z1, z2⟩ y => by
      obtain ⟨T, a, b, e1, e2, e3, e4, e5⟩ := (walk_enum (K := K) (a := l) (xs := vs)).yields i H x H' (by rw [z2.len]; exact hi) (SqL.of z1) y
      obtain rfl : V.int (i : Nat) = a := Option.some.inj e4
      obtain ⟨x', hx, hp⟩ := z2.get e5
      exact ⟨T, x', b, e1, e2, e3, hx, hp⟩⟩
  refine lc_it w (fun i H' => i ≤ xs.length ∧ Holds (ls E' D ((List.range i).filterMap fun i => xs[i]?.bind (kp i)) :: L) H') ⟨Nat.zero_le _, k.ls_new nD .nil⟩ (fun i H' _ p => t.ls (Sub.to (Sub.drop Sub.refl) p.2)) (fun i v H' H'' hi p ⟨T, x, u, e, nT, eH, hx, hp⟩ => ?_) (fun H' p => q D H' p.2)
  subst e eH
  have et : (List.range (i + 1)).filterMap (fun i => xs[i]?.bind (kp i)) = (List.range i).filterMap (fun i => xs[i]?.bind (kp i)) ++ (kp i x).toList := by
    rw [List.range_succ, List.filterMap_append]
    cases z : kp i x <;> simp [hx, z]
  have z0 : Holds (tu T [.int i, u] :: vl E u x :: ls E' D ((List.range i).filterMap fun i => xs[i]?.bind (kp i)) :: L) (upd H' T (.tup [.int i, u])) := Sub.to Sub.swap (by
    have z := (p.2.newI (o := .tup [.int i, u]) nT rfl).vl (E := E) (x := x) (v := u) (E.st hp (keepI_new nT))
    exact z)
  refine step i x hx T u D _ _ _ (fun v' y hy H4 z => ?_) (fun hn H3 z => ?_) _ z0
  · obtain ⟨ac, z1, z2⟩ := Holds.ls_op (Sub.to (Sub.drop Sub.refl) z)
    have z3 : E'.P H4 v' y := Take.vl take_here z
    refine ⟨ac, z1.pt_get, ?_, hi, ?_⟩
    · rw [z2.len]
      refine Nat.lt_of_le_of_lt (List.length_filterMap_le _ _) (Nat.lt_of_le_of_lt ?_ (by decide : 100000 < sizeLine))
      rw [List.length_range]
      omega
    · rw [et, hy]
      exact Holds.ls_upd (Sub.to (Sub.drop Sub.refl) z) (z2.app (.one z3))
  · refine ⟨hi, ?_⟩
    rw [et, hn]
    simp only [Option.toList_none, List.append_nil]
    exact z
end
end Toy
namespace Toy
open PySem L2
section
variable {K : PySem.W.Frag} {L R : List HA} {l : Addr} {ns : List Int} {H : Hp} {Q : VK}
theorem all2_I {vs : List V} (h : All2 ((kI (K := K)).P H) vs ns) : vs = ns.map V.int := by
  induction h with
  | nil => rfl
  | cons h _ ih => rw [List.map_cons, ← ih]; exact congrArg (· :: _) h
theorem e_sortI (t : Take (ls (kI (K := K)) l ns) L R) (q : ∀ (ns' : List Int) p, ns'.Perm ns → ns'.Pairwise (· ≤ ·) → Ent (ls (kI (K := K)) p ns' :: L) (Q (.ref p))) : Ent L fun H => rSortedI K [.ref l] H Q := fun H k => by
  obtain ⟨vs, h1, h2⟩ := t.ls k
  have e := all2_I h2
  subst e
  exact ⟨l, ns, rfl, SqL.of h1, fun ns' p hp hs np => q ns' p hp hs _ (k.ls_new np (All2.map V.int fun _ _ => rfl))⟩
end
end Toy
namespace Toy
open PySem L2
/-! ## mirrors: what a def does, told over plain values, handing on to what follows -/
def obx {α : Type} (o : Option α) (k : α → Prop) : Prop := ∃ x, o = some x ∧ k x
def grd (c k : Prop) : Prop := c ∧ k
def jn {M : Type} (k : M → Prop) (f : (M → Prop) → Prop) : Prop := f k
def drw (n : Int) (k : Int → Prop) : Prop := 0 < n ∧ n < 1000000000 ∧ ∀ d, 0 ≤ d → d < n → k d
def pck {α : Type} (xs : List α) (k : α → Prop) : Prop := (0 < xs.length ∧ xs.length < 1000000000) ∧ ∀ x ∈ xs, k x
def forL {α M : Type} : List α → M → (α → M → (M → Prop) → (M → Prop) → Prop) → (M → Prop) → Prop
  | [], m, _, k => k m
  | x :: xs, m, b, k => b x m (fun m' => forL xs m' b k) k
def lcL {α β : Type} : List α → List β → (α → (Option β → Prop) → Prop) → (List β → Prop) → Prop
  | [], acc, _, k => k acc
  | x :: xs, acc, b, k => b x fun o => lcL xs (acc ++ o.toList) b k
def whL {M : Type} (b : M → (M → Prop) → (M → Prop) → Prop) (k : M → Prop) : Nat → M → Prop
  | 0, _ => False
  | n + 1, m => b m (fun m' => whL b k n m') k
section
variable {α β M : Type} {k k' : M → Prop}
theorem obx_some {x : α} {k : α → Prop} : obx (some x) k = k x := by simp [obx]
theorem obx_none {k : α → Prop} : obx none k = False := by simp [obx]
theorem grd_true {c k : Prop} (h : c) : grd c k = k := by simp [grd, h]
theorem drw_ok {n : Int} {k : Int → Prop} (h0 : 0 < n ∧ n < 1000000000) (h : ∀ d, 0 ≤ d → d < n → k d) : drw n k := ⟨h0.1, h0.2, h⟩
theorem pck_ok {xs : List α} {k : α → Prop} (h0 : 0 < xs.length ∧ xs.length < 1000000000) (h : ∀ x ∈ xs, k x) : pck xs k := ⟨h0, h⟩
theorem jn_eq {f : (M → Prop) → Prop} : jn k f = f k := rfl
theorem forL_nil {m : M} {b : α → M → (M → Prop) → (M → Prop) → Prop} : forL [] m b k = k m := rfl
theorem forL_cons {m : M} {x : α} {xs : List α} {b : α → M → (M → Prop) → (M → Prop) → Prop} : forL (x :: xs) m b k = b x m (fun m' => forL xs m' b k) k := rfl
/-- by an invariant -/
theorem forL_inv {xs : List α} {b : α → M → (M → Prop) → (M → Prop) → Prop} (I : Nat → M → Prop) {m : M} (h0 : I 0 m) (step : ∀ i x m nx, xs[i]? = some x → I i m → (∀ m', I (i + 1) m' → nx m') → b x m nx k) (hd : ∀ m, I xs.length m → k m) : forL xs m b k := by
  have key : ∀ (ys : List α) (i : Nat) (m : M), xs.drop i = ys → i ≤ xs.length → I i m → forL ys m b k := by
    intro ys
    induction ys with
    | nil =>
      intro i m e hi h
      have : i = xs.length := by
        have := List.drop_eq_nil_iff.mp e
        omega
      subst this
      exact hd m h
    | cons y ys ih =>
      intro i m e hi h
      have hx : xs[i]? = some y := by
        have := congrArg (fun l => l[0]?) e
        simpa using this
      have hlt : i < xs.length := (List.getElem?_eq_some_iff.mp hx).1
      refine step i y m _ hx h fun m' h' => ih (i + 1) m' ?_ (by omega) h'
      have := congrArg List.tail e
      simpa using this
  exact key xs 0 m rfl (Nat.zero_le _) h0
/-- a loop whose turns hand on a value: a fold -/
theorem forL_fold {xs : List α} {b : α → M → (M → Prop) → (M → Prop) → Prop} (f : M → α → M) {m : M} (step : ∀ x ∈ xs, ∀ m nx, b x m nx k = nx (f m x)) : forL xs m b k = k (xs.foldl f m) := by
  induction xs generalizing m with
  | nil => rfl
  | cons x xs ih =>
    rw [forL_cons, step x (List.mem_cons_self ..), ih fun y hy => step y (List.mem_cons_of_mem _ hy)]
    rfl
theorem lcL_map {xs : List α} {acc : List β} {b : α → (Option β → Prop) → Prop} {k : List β → Prop} (f : α → Option β) (step : ∀ x ∈ xs, ∀ nx, b x nx = nx (f x)) : lcL xs acc b k = k (acc ++ xs.filterMap f) := by
  induction xs generalizing acc with
  | nil => simp [lcL]
  | cons x xs ih =>
    rw [lcL, step x (List.mem_cons_self ..), ih fun y hy => step y (List.mem_cons_of_mem _ hy)]
    congr 1
    cases h : f x <;> simp [List.filterMap_cons, h]
theorem lcL_some {xs : List α} {acc : List β} {k : List β → Prop} (f : α → β) : lcL xs acc (fun x nx => nx (some (f x))) k = k (acc ++ xs.map f) := by
  rw [lcL_map (fun x => some (f x)) fun x _ nx => rfl]
  simp
theorem lcL_if {xs : List α} {acc : List β} {k : List β → Prop} (p : α → Prop) [DecidablePred p] (f : α → β) : lcL xs acc (fun x nx => if p x then nx (some (f x)) else nx none) k = k (acc ++ (xs.filter p).map f) := by
  rw [lcL_map (fun x => if p x then some (f x) else none) fun x _ nx => by by_cases h : p x <;> simp [h]]
  congr 2
  induction xs with
  | nil => rfl
  | cons x xs ih => by_cases h : p x <;> simp [h, ih]
theorem lcL_filter {xs : List α} {acc : List α} {k : List α → Prop} (p : α → Prop) [DecidablePred p] : lcL xs acc (fun x nx => if p x then nx (some x) else nx none) k = k (acc ++ xs.filter p) := by
  have := lcL_if (xs := xs) (acc := acc) (k := k) p (fun x => x)
  simpa using this
theorem lcL_filterN {xs : List α} {acc : List α} {k : List α → Prop} (p : α → Prop) [DecidablePred p] : lcL xs acc (fun x nx => if p x then nx none else nx (some x)) k = k (acc ++ xs.filter fun x => ¬ p x) := by
  rw [lcL_map (fun x => if p x then none else some x) fun x _ nx => by by_cases h : p x <;> simp [h]]
  congr 2
  induction xs with
  | nil => rfl
  | cons x xs ih => by_cases h : p x <;> simp [h, ih]
/-- by an invariant over what is made -/
theorem lcL_inv {xs : List α} {b : α → (Option β → Prop) → Prop} {k : List β → Prop} (I : Nat → List β → Prop) {acc : List β} (h0 : I 0 acc) (step : ∀ i x acc nx, xs[i]? = some x → I i acc → (∀ o, I (i + 1) (acc ++ Option.toList o) → nx o) → b x nx) (hd : ∀ acc, I xs.length acc → k acc) : lcL xs acc b k := by
  have key : ∀ (ys : List α) (i : Nat) (acc : List β), xs.drop i = ys → i ≤ xs.length → I i acc → lcL ys acc b k := by
    intro ys
    induction ys with
    | nil =>
      intro i m e hi h
      have : i = xs.length := by
        have := List.drop_eq_nil_iff.mp e
        omega
      subst this
      exact hd m h
    | cons y ys ih =>
      intro i m e hi h
      have hx : xs[i]? = some y := by
        have := congrArg (fun l => l[0]?) e
        simpa using this
      refine step i y m _ hx h fun o h' => ih (i + 1) _ ?_ (by have := (List.getElem?_eq_some_iff.mp hx).1; omega) h'
      have := congrArg List.tail e
      simpa using this
  exact key xs 0 acc rfl (Nat.zero_le _) h0
end
/-! ### kinds: tuples of kinds -/
structure Els (K : PySem.W.Frag) (α : Type) where
  P : Hp → List V → α → Prop
  st : ∀ {H H' : Hp} {vs : List V} {x : α}, P H vs x → KeepI H H' → P H' vs x
  d : α → List PyData
  dp : ∀ {H : Hp} {vs : List V} {x : α}, P H vs x → DpAll K H vs (d x)
section
variable {K : PySem.W.Frag} {α β γ : Type}
def kNil : Els K Unit := ⟨fun _ vs _ => vs = [], fun h _ => h, fun _ => [], fun h => by subst h; exact .nil⟩
def kC1 (A : El K α) : Els K α := ⟨fun H vs x => ∃ v, vs = [v] ∧ A.P H v x, fun ⟨v, e, h⟩ k => ⟨v, e, A.st h k⟩, fun x => [A.d x], fun ⟨v, e, h⟩ => by subst e; exact .cons (A.dp h) .nil⟩
def kC (A : El K α) (B : Els K β) : Els K (α × β) := ⟨fun H vs x => ∃ v us, vs = v :: us ∧ A.P H v x.1 ∧ B.P H us x.2, fun ⟨v, us, e, h, h2⟩ k => ⟨v, us, e, A.st h k, B.st h2 k⟩, fun x => A.d x.1 :: B.d x.2, fun ⟨v, us, e, h, h2⟩ => by subst e; exact .cons (A.dp h) (B.dp h2)⟩
def kTup (B : Els K α) : El K α := ⟨fun H v x => ∃ t us, v = .ref t ∧ H t = some (.tup us) ∧ B.P H us x, fun ⟨t, us, e, h, h2⟩ k => ⟨t, us, e, k t _ h (.inr rfl), B.st h2 k⟩, fun x => .tuple (B.d x), fun ⟨t, us, e, h, h2⟩ => by subst e; exact .tup (SqT.of h) (B.dp h2)⟩
def kN : El K Unit := ⟨fun _ v _ => v = .non, fun h _ => h, fun _ => .none, fun h => by subst h; exact .non⟩
/-- a text that == looks at -/
def kSt : El K Str := ⟨fun _ v x => v = .str x ∧ PyData.strOk x = true, fun h _ => h, .str, fun h => by obtain ⟨h, _⟩ := h; subst h; exact .str _⟩
/-- one of two kinds -/
def kU (A : El K α) (B : El K β) : El K (α ⊕ β) := ⟨fun H v x => match x with | .inl a => A.P H v a | .inr b => B.P H v b, fun {H H' v x} h k => by
  cases x with
  | inl a => exact A.st h k
  | inr b => exact B.st h k, fun x => match x with | .inl a => A.d a | .inr b => B.d b, fun {H v x} h => by
  cases x with
  | inl a => exact A.dp h
  | inr b => exact B.dp h⟩
/-! told apart by == -/
class ElD [DecidableEq α] (E : El K α) where
  n : Nat
  lay : ∀ {H v x}, E.P H v x → (E.d x).canLay0 = true
  dep : ∀ x, (E.d x).depth ≤ n
  eqv : ∀ x y, PyData.eqv (E.d x) (E.d y) = decide (x = y)
class ElN (E : El K α) : Prop where
  non : ∀ x, PyData.eqv .none (E.d x) = false ∧ PyData.eqv (E.d x) .none = false
  nv : ∀ H v x, E.P H v x → v ≠ .non
class ElsD [DecidableEq α] (E : Els K α) where
  n : Nat
  lay : ∀ {H v x}, E.P H v x → PyData.canLayAll0 (E.d x) = true
  dep : ∀ x, PyData.depthAll (E.d x) ≤ n
  eqv : ∀ x y, PyData.eqvAll (E.d x) (E.d y) = decide (x = y)
@[reducible] def elD_of [DecidableEq α] {E : El K α} {n : Nat} (h : DtOk E.d n) : ElD E := ⟨n, fun _ => h.lay _, h.dep, h.eqv⟩
instance : ElD (kI (K := K)) := elD_of DtOk.int
instance : ElN (kI (K := K)) := ⟨DtOk.int.non, fun H v x h z => by have h : v = .int x := h; rw [h] at z; cases z⟩
instance : ElD (kB (K := K)) := ⟨0, fun {_ _ x} _ => by show (PyData.bool x).canLay0 = true; rw [PyData.canLay0], fun x => by show (PyData.bool x).depth ≤ 0; simp [PyData.depth], fun x y => by
  show PyData.eqv (.bool x) (.bool y) = _
  cases x <;> cases y <;> simp [PyData.eqv]⟩
instance : ElN (kB (K := K)) := ⟨fun x => by show PyData.eqv .none (.bool x) = false ∧ _; constructor <;> simp [PyData.eqv, kB], fun H v x h z => by have h : v = .bl x := h; rw [h] at z; cases z⟩
instance : ElD (kSt (K := K)) := ⟨0, fun {_ _ x} h => by show (PyData.str x).canLay0 = true; rw [PyData.canLay0]; exact h.2, fun x => by show (PyData.str x).depth ≤ 0; simp [PyData.depth], fun x y => by
  show PyData.eqv (.str x) (.str y) = _
  simp only [PyData.eqv]
  by_cases h : x = y
  · subst h; simp
  · rw [decide_eq_false h]; simpa using h⟩
instance : ElN (kSt (K := K)) := ⟨fun x => by show PyData.eqv .none (.str x) = false ∧ _; constructor <;> simp [PyData.eqv, kSt], fun H v x h z => by have h : v = .str x := h.1; rw [h] at z; cases z⟩
instance : ElD (kN (K := K)) := ⟨0, fun _ => by show PyData.none.canLay0 = true; rw [PyData.canLay0], fun x => by show PyData.none.depth ≤ 0; simp [PyData.depth], fun x y => by
  show PyData.eqv .none .none = _
  simp [PyData.eqv]⟩
instance [DecidableEq α] {E : El K α} [D : ElD E] [N : ElN E] : ElD (kO E) := ⟨D.n, fun {H v x} h => by
  cases x with
  | none => show PyData.none.canLay0 = true; rw [PyData.canLay0]
  | some y => exact D.lay (show E.P H v y from h), fun x => by
  cases x with
  | none => show PyData.none.depth ≤ _; simp [PyData.depth]
  | some y => exact D.dep y, fun x y => by
  cases x with
  | none => cases y with
    | none => show PyData.eqv .none .none = _; simp [PyData.eqv]
    | some y => show PyData.eqv .none (E.d y) = _; rw [(N.non y).1]; simp
  | some x => cases y with
    | none => show PyData.eqv (E.d x) .none = _; rw [(N.non x).2]; simp
    | some y => show PyData.eqv (E.d x) (E.d y) = _; rw [D.eqv]; simp⟩
instance : ElsD (kNil (K := K)) := ⟨0, fun _ => rfl, fun _ => by show PyData.depthAll [] ≤ 0; simp [PyData.depthAll], fun x y => by show PyData.eqvAll [] [] = _; simp [PyData.eqvAll]⟩
instance [DecidableEq α] {A : El K α} [D : ElD A] : ElsD (kC1 A) := ⟨D.n, fun {H vs x} h => by show PyData.canLayAll0 [A.d x] = true; obtain ⟨v, _, h⟩ := h; simp [PyData.canLayAll0, D.lay h], fun x => by
  have := D.dep x
  show PyData.depthAll [A.d x] ≤ _
  simp [PyData.depthAll]; omega, fun x y => by show PyData.eqvAll [A.d x] [A.d y] = _; simp [PyData.eqvAll, D.eqv]⟩
instance [DecidableEq α] [DecidableEq β] {A : El K α} {B : Els K β} [D : ElD A] [F : ElsD B] : ElsD (kC A B) := ⟨max D.n F.n, fun {H vs x} h => by show PyData.canLayAll0 (A.d x.1 :: B.d x.2) = true; obtain ⟨v, us, _, h, h2⟩ := h; simp [PyData.canLayAll0, D.lay h, F.lay h2], fun x => by
  have h1 := D.dep x.1
  have h2 := F.dep x.2
  show PyData.depthAll (A.d x.1 :: B.d x.2) ≤ _
  simp only [PyData.depthAll] at h2 ⊢; omega, fun x y => by
  show PyData.eqvAll (A.d x.1 :: B.d x.2) (A.d y.1 :: B.d y.2) = _
  obtain ⟨a, b⟩ := x
  obtain ⟨a', b'⟩ := y
  simp only [PyData.eqvAll, D.eqv, F.eqv, Prod.mk.injEq]
  by_cases h : a = a' <;> by_cases h2 : b = b' <;> simp [h, h2]⟩
instance [DecidableEq α] {B : Els K α} [F : ElsD B] : ElD (kTup B) := ⟨F.n + 1, fun {H v x} h => by show (PyData.tuple (B.d x)).canLay0 = true; rw [PyData.canLay0]; obtain ⟨t, us, _, _, h⟩ := h; exact F.lay h, fun x => by
  have := F.dep x
  show (PyData.tuple (B.d x)).depth ≤ _
  simp only [PyData.depth]; omega, fun x y => by
  show PyData.eqv (.tuple (B.d x)) (.tuple (B.d y)) = _
  rw [PyData.eqv]; exact F.eqv x y⟩
instance {B : Els K α} : ElN (kTup B) := ⟨fun x => by show PyData.eqv .none (.tuple (B.d x)) = false ∧ PyData.eqv (.tuple (B.d x)) .none = false; constructor <;> simp [PyData.eqv], fun H v x h z => by obtain ⟨t, us, e, _⟩ := h; rw [e] at z; cases z⟩
section
variable [DecidableEq α] {A : El K α} [D : ElD A]
theorem ElD.layAll {H : Hp} {vs : List V} {xs : List α} (h : All2 (A.P H) vs xs) : PyData.canLayAll0 (xs.map A.d) = true := by
  induction h with
  | nil => rfl
  | cons h _ ih =>
    rw [List.map_cons]
    simp only [PyData.canLayAll0, D.lay h, ih, Bool.and_self]
theorem ElD.depAll (xs : List α) : PyData.depthAll (xs.map A.d) ≤ D.n := by
  induction xs with
  | nil => simp [PyData.depthAll]
  | cons x xs h1 =>
    have h2 := D.dep x
    rw [List.map_cons]
    simp only [PyData.depthAll] at h1 ⊢
    omega
theorem ElD.eqvAll : ∀ xs ys : List α, PyData.eqvAll (xs.map A.d) (ys.map A.d) = decide (xs = ys)
  | [], [] => by simp [PyData.eqvAll]
  | [], y :: ys => by simp [PyData.eqvAll]
  | x :: xs, [] => by simp [PyData.eqvAll]
  | x :: xs, y :: ys => by
    rw [List.map_cons, List.map_cons]
    simp only [PyData.eqvAll, D.eqv x y, ElD.eqvAll xs ys]
    by_cases e : x = y <;> by_cases e2 : xs = ys <;> simp [e, e2]
end
instance [DecidableEq α] {A : El K α} [D : ElD A] : ElD (kT A) := ⟨D.n + 1, fun {H v x} h => by show (PyData.tuple (x.map A.d)).canLay0 = true; rw [PyData.canLay0]; obtain ⟨t, us, _, _, h⟩ := h; exact D.layAll h, fun x => by
  have := D.depAll x
  show (PyData.tuple (x.map A.d)).depth ≤ _
  simp only [PyData.depth]; omega, fun x y => by
  show PyData.eqv (.tuple (x.map A.d)) (.tuple (y.map A.d)) = _
  rw [PyData.eqv]; exact D.eqvAll x y⟩
instance {A : El K α} : ElN (kT A) := ⟨fun x => by show PyData.eqv .none (.tuple (x.map A.d)) = false ∧ PyData.eqv (.tuple (x.map A.d)) .none = false; constructor <;> simp [PyData.eqv], fun H v x h z => by obtain ⟨t, us, e, _⟩ := h; rw [e] at z; cases z⟩
/-! ### what is compared: by content as it stands -/
structure Ct (K : PySem.W.Frag) (α : Type) where
  P : Hp → V → α → Prop
  d : α → PyData
  dp : ∀ {H : Hp} {v : V} {x : α}, P H v x → Dp K H v (d x)
structure Cts (K : PySem.W.Frag) (α : Type) where
  P : Hp → List V → α → Prop
  d : α → List PyData
  dp : ∀ {H : Hp} {vs : List V} {x : α}, P H vs x → DpAll K H vs (d x)
def ctE (E : El K α) : Ct K α := ⟨E.P, E.d, E.dp⟩
def ctL (C : Ct K α) : Ct K (List α) := ⟨fun H v xs => ∃ l vs, v = .ref l ∧ SqL K H l vs ∧ All2 (C.P H) vs xs, fun xs => .list (xs.map C.d), fun ⟨l, vs, e, h, a⟩ => by subst e; exact .lst h (dpAll_of (a.imp fun _ _ z => C.dp z))⟩
def ctN : Cts K Unit := ⟨fun _ vs _ => vs = [], fun _ => [], fun h => by subst h; exact .nil⟩
def ctC1 (A : Ct K α) : Cts K α := ⟨fun H vs x => ∃ v, vs = [v] ∧ A.P H v x, fun x => [A.d x], fun ⟨v, e, h⟩ => by subst e; exact .cons (A.dp h) .nil⟩
def ctC (A : Ct K α) (B : Cts K β) : Cts K (α × β) := ⟨fun H vs x => ∃ v us, vs = v :: us ∧ A.P H v x.1 ∧ B.P H us x.2, fun x => A.d x.1 :: B.d x.2, fun ⟨v, us, e, h, h2⟩ => by subst e; exact .cons (A.dp h) (B.dp h2)⟩
def ctT (B : Cts K α) : Ct K α := ⟨fun H v x => ∃ t us, v = .ref t ∧ SqT K H t us ∧ B.P H us x, fun x => .tuple (B.d x), fun ⟨t, us, e, h, h2⟩ => by subst e; exact .tup h (B.dp h2)⟩
class CtD [DecidableEq α] (E : Ct K α) where
  n : Nat
  lay : ∀ {H v x}, E.P H v x → (E.d x).canLay0 = true
  dep : ∀ x, (E.d x).depth ≤ n
  eqv : ∀ x y, PyData.eqv (E.d x) (E.d y) = decide (x = y)
class CtsD [DecidableEq α] (E : Cts K α) where
  n : Nat
  lay : ∀ {H v x}, E.P H v x → PyData.canLayAll0 (E.d x) = true
  dep : ∀ x, PyData.depthAll (E.d x) ≤ n
  eqv : ∀ x y, PyData.eqvAll (E.d x) (E.d y) = decide (x = y)
instance [DecidableEq α] {E : El K α} [D : ElD E] : CtD (ctE E) := ⟨D.n, D.lay, D.dep, D.eqv⟩
section
variable [DecidableEq α] {A : Ct K α} [D : CtD A]
theorem CtD.layAll {H : Hp} {vs : List V} {xs : List α} (h : All2 (A.P H) vs xs) : PyData.canLayAll0 (xs.map A.d) = true := by
  induction h with
  | nil => rfl
  | cons h _ ih =>
    rw [List.map_cons]
    simp only [PyData.canLayAll0, D.lay h, ih, Bool.and_self]
theorem CtD.depAll (xs : List α) : PyData.depthAll (xs.map A.d) ≤ D.n := by
  induction xs with
  | nil => simp [PyData.depthAll]
  | cons x xs h1 =>
    have h2 := D.dep x
    rw [List.map_cons]
    simp only [PyData.depthAll] at h1 ⊢
    omega
theorem CtD.eqvAll : ∀ xs ys : List α, PyData.eqvAll (xs.map A.d) (ys.map A.d) = decide (xs = ys)
  | [], [] => by simp [PyData.eqvAll]
  | [], y :: ys => by simp [PyData.eqvAll]
  | x :: xs, [] => by simp [PyData.eqvAll]
  | x :: xs, y :: ys => by
    rw [List.map_cons, List.map_cons]
    simp only [PyData.eqvAll, D.eqv x y, CtD.eqvAll xs ys]
    by_cases e : x = y <;> by_cases e2 : xs = ys <;> simp [e, e2]
end
instance [DecidableEq α] {A : Ct K α} [D : CtD A] : CtD (ctL A) := ⟨D.n + 1, fun {H v x} h => by show (PyData.list (x.map A.d)).canLay0 = true; rw [PyData.canLay0]; obtain ⟨t, us, _, _, h⟩ := h; exact D.layAll h, fun x => by
  have := D.depAll x
  show (PyData.list (x.map A.d)).depth ≤ _
  simp only [PyData.depth]; omega, fun x y => by
  show PyData.eqv (.list (x.map A.d)) (.list (y.map A.d)) = _
  rw [PyData.eqv]; exact D.eqvAll x y⟩
instance : CtsD (ctN (K := K)) := ⟨0, fun _ => rfl, fun _ => by show PyData.depthAll [] ≤ 0; simp [PyData.depthAll], fun x y => by show PyData.eqvAll [] [] = _; simp [PyData.eqvAll]⟩
instance [DecidableEq α] {A : Ct K α} [D : CtD A] : CtsD (ctC1 A) := ⟨D.n, fun {H vs x} h => by show PyData.canLayAll0 [A.d x] = true; obtain ⟨v, _, h⟩ := h; simp [PyData.canLayAll0, D.lay h], fun x => by
  have := D.dep x
  show PyData.depthAll [A.d x] ≤ _
  simp [PyData.depthAll]; omega, fun x y => by show PyData.eqvAll [A.d x] [A.d y] = _; simp [PyData.eqvAll, D.eqv]⟩
instance [DecidableEq α] [DecidableEq β] {A : Ct K α} {B : Cts K β} [D : CtD A] [F : CtsD B] : CtsD (ctC A B) := ⟨max D.n F.n, fun {H vs x} h => by show PyData.canLayAll0 (A.d x.1 :: B.d x.2) = true; obtain ⟨v, us, _, h, h2⟩ := h; simp [PyData.canLayAll0, D.lay h, F.lay h2], fun x => by
  have h1 := D.dep x.1
  have h2 := F.dep x.2
  show PyData.depthAll (A.d x.1 :: B.d x.2) ≤ _
  simp only [PyData.depthAll] at h2 ⊢; omega, fun x y => by
  show PyData.eqvAll (A.d x.1 :: B.d x.2) (A.d y.1 :: B.d y.2) = _
  obtain ⟨a, b⟩ := x
  obtain ⟨a', b'⟩ := y
  simp only [PyData.eqvAll, D.eqv, F.eqv, Prod.mk.injEq]
  by_cases h : a = a' <;> by_cases h2 : b = b' <;> simp [h, h2]⟩
instance [DecidableEq α] {B : Cts K α} [F : CtsD B] : CtD (ctT B) := ⟨F.n + 1, fun {H v x} h => by show (PyData.tuple (B.d x)).canLay0 = true; rw [PyData.canLay0]; obtain ⟨t, us, _, _, h⟩ := h; exact F.lay h, fun x => by
  have := F.dep x
  show (PyData.tuple (B.d x)).depth ≤ _
  simp only [PyData.depth]; omega, fun x y => by
  show PyData.eqv (.tuple (B.d x)) (.tuple (B.d y)) = _
  rw [PyData.eqv]; exact F.eqv x y⟩
def rEqC [DecidableEq α] (C : Ct K α) : R2 := fun x y H Q => ∃ a b, C.P H x a ∧ C.P H y b ∧ Q (.bl (decide (a = b))) H
def rNeC [DecidableEq α] (C : Ct K α) : R2 := fun x y H Q => ∃ a b, C.P H x a ∧ C.P H y b ∧ Q (.bl (!decide (a = b))) H
theorem op_eqC {X : Cx} [DecidableEq α] (C : Ct K α) [D : CtD C] (hu : X.A.units + 64 < cLine) (hn : D.n ≤ 64 := by exact Nat.le_of_ble_eq_true rfl) (hK : X.K = K := by rfl) : OpR X (compareOp .Eq) (rEqC C) := fun pins s σ H x y v u Q I rx ry h => by
  subst hK
  obtain ⟨a, b, h1, h2, q⟩ := h
  exact op_eqD hu pins s σ H x y v u Q I rx ry ⟨C.d a, C.d b, C.dp h1, C.dp h2, shaped_of (D.lay h1) (D.dep a) hn, shaped_of (D.lay h2) (D.dep b) hn, by rw [D.eqv]; exact q⟩
theorem op_neC {X : Cx} [DecidableEq α] (C : Ct K α) [D : CtD C] (hu : X.A.units + 64 < cLine) (hn : D.n ≤ 64 := by exact Nat.le_of_ble_eq_true rfl) (hK : X.K = K := by rfl) : OpR X (compareOp .NotEq) (rNeC C) := fun pins s σ H x y v u Q I rx ry h => by
  subst hK
  obtain ⟨a, b, h1, h2, q⟩ := h
  exact op_neD hu pins s σ H x y v u Q I rx ry ⟨C.d a, C.d b, C.dp h1, C.dp h2, shaped_of (D.lay h1) (D.dep a) hn, shaped_of (D.lay h2) (D.dep b) hn, by rw [D.eqv]; exact q⟩
end
/-! ### cuts within a statement -/
def tCutT (c : TT) : TT := fun σ H Q => ∃ M : Bool → Hp → Prop, c σ H M ∧ ∀ b H', M b H' → Q b H'
theorem pt_cut {X : Cx} {e : Expr} {c : TT} (h : PT X e c) : PT X e (tCutT c) := ⟨fun pins s σ H Q I ⟨M, hm, hq⟩ => thn (h.run pins s σ H M I hm) fun b s' ⟨H', I', q⟩ => ⟨H', I', hq b H' q⟩⟩
def tCutE (t : TE) : TE := fun σ H Q => ∃ M : VK, t σ H M ∧ ∀ v H', M v H' → Q v H'
theorem pe_cut {X : Cx} {e : Expr} {t : TE} (h : PE X e t) : PE X e (tCutE t) := ⟨fun pins s σ H Q I ⟨M, hm, hq⟩ => thn (h.run pins s σ H M I hm) fun b s' ⟨v, H', I', r, q⟩ => ⟨v, H', I', r, hq v H' q⟩⟩
end Toy
namespace Toy
open PySem L2
def obg {α : Type} (o : Option α) (k : α → Prop) : Prop := ∃ x, o = some x ∧ k x
theorem obg_some {α : Type} {x : α} {k : α → Prop} : obg (some x) k = k x := by simp [obg]
theorem obg_none {α : Type} {k : α → Prop} : obg none k = False := by simp [obg]
def upds : St → List (Option (Option V)) → St
  | s :: σ, none :: r => s :: upds σ r
  | _ :: σ, some v :: r => v :: upds σ r
  | σ, [] => σ
  | [], _ => []
abbrev eqb {α : Type} [DecidableEq α] (x y : α) : Bool := decide (x = y)
section
variable {K : PySem.W.Frag} {α β γ M B : Type} {L R R' R3 : List HA} {σ τ : St} {Q : VK} {D : Ends} {nx bk ct : St → Hp → Prop} {rt : VK} {v x y : V} {a b p l : Addr} {vs us : List V} {φ ψ : Hp → Prop} {H : Hp} {E : El K α} {F : El K β} {X Y : Prop}
/-! ### values made plain -/
def vEls (Es : Els K α) (us : List V) (x : α) : HA := ⟨fun H S => Es.P H us x ∧ ∀ b, ¬ S b, fun ⟨h, s⟩ k => ⟨Es.st h k.i, s⟩, fun ⟨_, s⟩ q => (s _ q).elim⟩
theorem Holds.els {Es : Els K α} {x : α} (h : Holds L H) (e : Es.P H us x) : Holds (vEls Es us x :: L) H := by
  obtain ⟨S, h⟩ := h
  exact ⟨S, fun _ => False, S, ⟨e, fun b q => q⟩, h, fun b e q => e, fun b => ⟨.inr, fun z => z.elim (fun z => z.elim) id⟩⟩
theorem Holds.hd_els {Es : Els K α} {x : α} (h : Holds (vEls Es us x :: L) H) : Es.P H us x ∧ Holds L H := by
  obtain ⟨S, S1, S2, h1, h2, _⟩ := h
  exact ⟨h1.1, S2, h2⟩
theorem Holds.hd_vl {x : α} (h : Holds (Toy.vl E v x :: L) H) : E.P H v x ∧ Holds L H := by
  obtain ⟨S, S1, S2, h1, h2, _⟩ := h
  exact ⟨h1.1, S2, h2⟩
theorem Ent.vB {n : Bool} {φ : V → Hp → Prop} (q : Ent L (φ (.bl n))) (v : V) : Ent (vl (K := K) kB v n :: L) (φ v) := fun H h => by
  obtain ⟨e, h'⟩ := h.hd_vl
  obtain rfl : v = .bl n := e
  exact q H h'
theorem Ent.vN {n : Unit} {φ : V → Hp → Prop} (q : Ent L (φ .non)) (v : V) : Ent (vl (K := K) kN v n :: L) (φ v) := fun H h => by
  obtain ⟨e, h'⟩ := h.hd_vl
  obtain rfl : v = .non := e
  exact q H h'
theorem Ent.vS {n : Str} {φ : V → Hp → Prop} (q : Ent L (φ (.str n))) (v : V) : Ent (vl (K := K) kS v n :: L) (φ v) := fun H h => by
  obtain ⟨e, h'⟩ := h.hd_vl
  obtain rfl : v = .str n := e
  exact q H h'
theorem Ent.vSt {n : Str} {φ : V → Hp → Prop} (q : Ent (vl (K := K) kSt (.str n) n :: L) (φ (.str n))) (v : V) : Ent (vl (K := K) kSt v n :: L) (φ v) := fun H h => by
  obtain ⟨e, _⟩ := h.hd_vl
  obtain rfl : v = .str n := e.1
  exact q H h
theorem Ent.tupO {Es : Els K α} {x : α} (t : Take (vl (kTup Es) v x) L R) (q : ∀ a us, v = .ref a → Ent (vEls Es us x :: tu a us :: L) φ) : Ent L φ := fun H h => by
  obtain ⟨a, us, e, h1, h2⟩ := t.vl h
  exact q a us e H ((h.addI h1 rfl).els h2)
theorem Ent.elsN {x : Unit} (q : us = [] → Ent L φ) : Ent (vEls (K := K) kNil us x :: L) φ := fun H h => by
  obtain ⟨e, h⟩ := h.hd_els
  exact q e H h
theorem Ent.elsC {A : El K α} {B : Els K β} {x : α × β} (q : ∀ u us', us = u :: us' → Ent (vEls B us' x.2 :: vl A u x.1 :: L) φ) : Ent (vEls (kC A B) us x :: L) φ := fun H h => by
  obtain ⟨⟨u, us', e, h1, h2⟩, h⟩ := h.hd_els
  exact q u us' e H ((h.vl h1).els h2)
theorem Ent.elsCI {B : Els K β} {x : Int × β} (q : ∀ us', us = .int x.1 :: us' → Ent (vEls B us' x.2 :: L) φ) : Ent (vEls (kC kI B) us x :: L) φ := fun H h => by
  obtain ⟨⟨u, us', e, h1, h2⟩, h⟩ := h.hd_els
  obtain rfl : u = .int x.1 := h1
  exact q us' e H (h.els h2)
theorem Ent.elsCB {B : Els K β} {x : Bool × β} (q : ∀ us', us = .bl x.1 :: us' → Ent (vEls B us' x.2 :: L) φ) : Ent (vEls (kC kB B) us x :: L) φ := fun H h => by
  obtain ⟨⟨u, us', e, h1, h2⟩, h⟩ := h.hd_els
  obtain rfl : u = .bl x.1 := h1
  exact q us' e H (h.els h2)
theorem Ent.elsCS {B : Els K β} {x : Str × β} (q : ∀ us', us = .str x.1 :: us' → Ent (vEls B us' x.2 :: vl (K := K) kSt (.str x.1) x.1 :: L) φ) : Ent (vEls (kC kSt B) us x :: L) φ := fun H h => by
  obtain ⟨⟨u, us', e, h1, h2⟩, h⟩ := h.hd_els
  obtain rfl : u = .str x.1 := h1.1
  exact q us' e H ((h.vl h1).els h2)
theorem Ent.els1 {A : El K α} {x : α} (q : ∀ u, us = [u] → Ent (vl A u x :: L) φ) : Ent (vEls (kC1 A) us x :: L) φ := fun H h => by
  obtain ⟨⟨u, e, h1⟩, h⟩ := h.hd_els
  exact q u e H (h.vl h1)
theorem Ent.els1I {x : Int} (q : us = [.int x] → Ent L φ) : Ent (vEls (K := K) (kC1 kI) us x :: L) φ := fun H h => by
  obtain ⟨⟨u, e, h1⟩, h⟩ := h.hd_els
  obtain rfl : u = .int x := h1
  exact q e H h
theorem Ent.els1B {x : Bool} (q : us = [.bl x] → Ent L φ) : Ent (vEls (K := K) (kC1 kB) us x :: L) φ := fun H h => by
  obtain ⟨⟨u, e, h1⟩, h⟩ := h.hd_els
  obtain rfl : u = .bl x := h1
  exact q e H h
theorem Ent.els1S {x : Str} (q : us = [.str x] → Ent (vl (K := K) kSt (.str x) x :: L) φ) : Ent (vEls (K := K) (kC1 kSt) us x :: L) φ := fun H h => by
  obtain ⟨⟨u, e, h1⟩, h⟩ := h.hd_els
  obtain rfl : u = .str x := h1.1
  exact q e H (h.vl h1)
/-! what is said of values (el) -/
abbrev Is (E : El K α) (L : List HA) (v : V) (x : α) : Prop := ∀ H, Holds L H → E.P H v x
abbrev IsE (E : Els K α) (L : List HA) (vs : List V) (x : α) : Prop := ∀ H, Holds L H → E.P H vs x
abbrev IsC (E : Ct K α) (L : List HA) (v : V) (x : α) : Prop := ∀ H, Holds L H → E.P H v x
abbrev IsCs (E : Cts K α) (L : List HA) (vs : List V) (x : α) : Prop := ∀ H, Holds L H → E.P H vs x
theorem is_I {n : Int} : Is (kI (K := K)) L (.int n) n := fun _ _ => rfl
theorem is_B {n : Bool} : Is (kB (K := K)) L (.bl n) n := fun _ _ => rfl
theorem is_S {n : Str} : Is (kS (K := K)) L (.str n) n := fun _ _ => rfl
theorem is_St {n : Str} (h : PyData.strOk n = true) : Is (kSt (K := K)) L (.str n) n := fun _ _ => ⟨rfl, h⟩
theorem is_N : Is (kN (K := K)) L .non () := fun _ _ => rfl
theorem is_no : Is (kO E) L .non none := fun _ _ => rfl
theorem is_so {x : α} (h : Is E L v x) : Is (kO E) L v (some x) := h
theorem is_v {x : α} (t : Take (vl E v x) L R) : Is E L v x := fun H h => t.vl h
theorem is_tup {Es : Els K α} {x : α} (t : Take (tu a us) L R) (h : IsE Es L us x) : Is (kTup Es) L (.ref a) x := fun H k => ⟨a, us, rfl, t.im k, h H k⟩
theorem is_nil : IsE (kNil (K := K)) L [] () := fun _ _ => rfl
theorem is_c {Es : Els K β} {x : α} {y : β} (h : Is E L v x) (h2 : IsE Es L us y) : IsE (kC E Es) L (v :: us) (x, y) := fun H k => ⟨v, us, rfl, h H k, h2 H k⟩
theorem is_c1 {x : α} (h : Is E L v x) : IsE (kC1 E) L [v] x := fun H k => ⟨v, rfl, h H k⟩
theorem is_ul {x : α} (h : Is E L v x) : Is (kU E F) L v (.inl x) := h
theorem is_ur {y : β} (h : Is F L v y) : Is (kU E F) L v (.inr y) := h
theorem isC_e {x : α} (h : Is E L v x) : IsC (ctE E) L v x := h
theorem isC_ls {xs : List α} (t : Take (ls E l xs) L R) : IsC (ctL (ctE E)) L (.ref l) xs := fun H h => by
  obtain ⟨vs, h1, h2⟩ := t.ls h
  exact ⟨l, vs, rfl, SqL.of h1, h2⟩
theorem isC_t {Es : Cts K α} {x : α} (t : Take (tu a us) L R) (h : IsCs Es L us x) : IsC (ctT Es) L (.ref a) x := fun H k => ⟨a, us, rfl, SqT.of (t.im k), h H k⟩
theorem isC_l {C : Ct K α} {xs : List α} (t : Take (pt l (.lst us)) L R) (h : ∀ H, Holds L H → All2 (C.P H) us xs) : IsC (ctL C) L (.ref l) xs := fun H k => ⟨l, us, rfl, SqL.of (t.pt k), h H k⟩
theorem isC_n : IsCs (ctN (K := K)) L [] () := fun _ _ => rfl
theorem isC_c {C : Ct K α} {Es : Cts K β} {x : α} {y : β} (h : IsC C L v x) (h2 : IsCs Es L us y) : IsCs (ctC C Es) L (v :: us) (x, y) := fun H k => ⟨v, us, rfl, h H k, h2 H k⟩
theorem isC_c1 {C : Ct K α} {x : α} (h : IsC C L v x) : IsCs (ctC1 C) L [v] x := fun H k => ⟨v, rfl, h H k⟩
theorem isA_nil {r : Hp → V → α → Prop} : ∀ H, Holds L H → All2 (r H) [] [] := fun _ _ => .nil
theorem isA_c {r : Hp → V → α → Prop} {x : α} {xs : List α} (h : ∀ H, Holds L H → r H v x) (h2 : ∀ H, Holds L H → All2 (r H) us xs) : ∀ H, Holds L H → All2 (r H) (v :: us) (x :: xs) := fun H k => .cons (h H k) (h2 H k)
/-- a written list is a list of the kind E -/
theorem take_lsD {xs : List α} (t : Take (pt l (.lst us)) L R) (h : ∀ H, Holds R H → All2 (E.P H) us xs) : Take (ls E l xs) L R := Sub.trans t (Sub.ls_i h)
theorem Sub.is {M' : List HA} {x : α} (h : Is E L v x) (s : Sub L M') : Sub L (vl E v x :: M') := Sub.vl_i h s
/-! ### steps that ask the mirror -/
theorem c_get {o : Option Int} {k : Int → Prop} (hm : obg o k) (t : Take (vl (K := K) (kO kI) v o) L R) (q : ∀ w, k w → v = .int w → Ent L φ) : Ent L φ := fun H h => by
  obtain ⟨w, rfl, hk⟩ := hm
  exact q w hk (t.vl h) H h
theorem c_getV {o : Option α} {k : α → Prop} (hm : obg o k) (t : Take (vl (kO E) v o) L R) (q : ∀ w, k w → Ent (vl E v w :: L) φ) : Ent L φ := fun H h => by
  obtain ⟨w, rfl, hk⟩ := hm
  exact q w hk H (h.vl (t.vl h))
theorem c_draw {n : Int} {k : Int → Prop} {E : XK} (hm : drw n k) (t : Take (PotA p) L R) (q : ∀ d, k d → Ent (PotA p :: R) (Q (.int d))) : Ent L fun H => aDraw [.ref p, .int n] H Q E := e_draw t hm.1 hm.2.1 fun d h0 h1 => q d (hm.2.2 d h0 h1)
theorem c_pick {xs : List α} {k : α → Prop} {X : XK} {s : Addr} (hm : pck xs k) (t : Take (PotA p) L R) (hl : Take (ls E s xs) R R') (q : ∀ w, k w → ∀ v, Ent (vl E v w :: PotA p :: R) (Q v)) : Ent L fun H => aPick K [.ref p, .ref s] H Q X := e_pickLs t hl hm.1.1 hm.1.2 fun d x v e => q x (hm.2 x (List.mem_of_getElem? e)) v
theorem c_ix {xs : List α} {i : Int} {k : α → Prop} (hm : obx (atI xs i) k) (t : Take (ls E l xs) L R) (q : ∀ w, k w → ∀ v, Ent (vl E v w :: L) (Q v)) : Ent L fun H => rIxL K (.ref l) (.int i) H Q := by
  obtain ⟨w, e, hk⟩ := hm
  exact e_ixLs t e (q w hk)
theorem c_I {C : Int → Int → Prop} {g : Int → Int → V} {i j : Int} {k : Prop} (hm : grd (C i j) k) (q : k → Ent L fun H => Q (g i j) H) : Ent L fun H => rI C g (.int i) (.int j) H Q := e_I hm.1 (q hm.2)
theorem c_app {xs : List α} {y : α} {k : Prop} (hm : grd (xs.length ≤ 100000) k) (t : Take (ls E l xs) L R) (hy : Is E L v y) (q : k → Ent (ls E l (xs ++ [y]) :: R) (Q .non)) : Ent L fun H => rAppend (.ref l) [v] H Q := e_appLs t hy hm.1 (q hm.2)
theorem c_set {xs : List α} {y : α} {i : Int} {k : Nat → Prop} (hm : obx (ixN xs.length i) k) (t : Take (ls E l xs) L R) (hy : Is E L v y) (q : ∀ j, k j → Ent (ls E l (xs.set j y) :: R) φ) : Ent L fun H => rSetL (.ref l) (.int i) v H φ := by
  obtain ⟨j, e, hk⟩ := hm
  exact e_setLs t e hy (q j hk)
theorem c_pop {xs : List α} {k : α → Prop} (hm : obx xs[xs.length - 1]? k) (t : Take (ls E l xs) L R) (q : ∀ w, k w → ∀ v, Ent (vl E v w :: ls E l xs.dropLast :: R) (Q v)) : Ent L fun H => rPop (.ref l) [] H Q := by
  obtain ⟨w, e, hk⟩ := hm
  exact e_popLs t e (q w hk)
def popI (xs : List α) (i : Int) : Option (Nat × α) := if -1000000 ≤ i ∧ i ≤ 1000000 then (seqIndex? i xs.length).bind fun j => xs[j]?.map fun y => (j, y) else none
theorem c_popAt {xs : List α} {i : Int} {k : Nat × α → Prop} (hm : obx (popI xs i) k) (t : Take (ls E l xs) L R) (q : ∀ w, k w → ∀ v, Ent (vl E v w.2 :: ls E l (xs.eraseIdx w.1) :: R) (Q v)) : Ent L fun H => rPopAt (.ref l) [.int i] H Q := by
  obtain ⟨⟨j, w⟩, e, hk⟩ := hm
  unfold popI at e
  by_cases c : -1000000 ≤ i ∧ i ≤ 1000000
  · rw [if_pos c] at e
    cases h1 : seqIndex? i xs.length with
    | none => rw [h1] at e; simp at e
    | some j' =>
      rw [h1] at e
      cases h2 : xs[j']? with
      | none => simp [h2] at e
      | some y' =>
        simp [h2] at e
        obtain ⟨e1, e2⟩ := e
        subst e1 e2
        exact e_popAtLs t c h1 h2 (q _ hk)
  · rw [if_neg c] at e; cases e
theorem c_cat {xs ys : List α} {k : Prop} (hm : grd (xs.length + ys.length ≤ 100000) k) (t : Take (ls E l xs) L R) (t2 : Take (ls E b ys) L R') (q : k → ∀ p, Ent (ls E p (xs ++ ys) :: L) (Q (.ref p))) : Ent L fun H => rCat (.ref l) (.ref b) H Q := e_catLs t t2 hm.1 (q hm.2)
/-! tests -/
theorem c_if {c : Prop} {i : Decidable c} [Decidable c] (hm : @ite _ c i X Y) (h1 : X → Ent L φ) (h2 : Y → Ent L ψ) : Ent L fun H => if decide c = true then φ H else ψ H := eS (fun z => h1 (by rwa [if_pos z] at hm)) fun z => h2 (by rwa [if_neg z] at hm)
theorem c_ifN {c : Prop} {i : Decidable c} [Decidable c] (hm : @ite _ c i X Y) (h1 : X → Ent L φ) (h2 : Y → Ent L ψ) : Ent L fun H => if (!decide c) = true then ψ H else φ H := eNS (fun z => h1 (by rwa [if_pos z] at hm)) fun z => h2 (by rwa [if_neg z] at hm)
theorem c_ifB {c : Bool} {i : Decidable (c = true)} (hm : @ite _ (c = true) i X Y) (h1 : X → Ent L φ) (h2 : Y → Ent L ψ) : Ent L fun H => @ite _ (c = true) (instDecidableEqBool c true) (φ H) (ψ H) := eB (fun z => h1 (by rwa [if_pos z] at hm)) fun z => h2 (by rwa [if_neg (by simp [z])] at hm)
theorem c_ifNB {c : Bool} {i : Decidable (c = true)} (hm : @ite _ (c = true) i X Y) (h1 : X → Ent L φ) (h2 : Y → Ent L ψ) : Ent L fun H => @ite _ ((!c) = true) (instDecidableEqBool (!c) true) (ψ H) (φ H) := eB (fun z => h2 (by rwa [if_neg (by simpa using z)] at hm)) fun z => h1 (by rwa [if_pos (by simpa using z)] at hm)
theorem e_isO {o : Option α} [ElN E] (t : Take (vl (kO E) v o) L R) (q : Ent L (Q (.bl o.isNone))) : Ent L fun H => V.non = .non ∧ Q (.bl (decide (v = .non))) H := fun H h => ⟨rfl, by
  have e : decide (v = V.non) = o.isNone := by
    have z := t.vl h
    cases o with
    | none => obtain rfl : v = .non := z; simp
    | some w => simpa using ElN.nv (E := E) H v w z
  rw [e]
  exact q H h⟩
theorem e_isOF (hv : v ≠ .non) (q : Ent L (Q (.bl false))) : Ent L fun H => V.non = .non ∧ Q (.bl (decide (v = .non))) H := fun H h => ⟨rfl, by rw [decide_eq_false hv]; exact q H h⟩
theorem e_isOT (q : Ent L (Q (.bl true))) : Ent L fun H => V.non = .non ∧ Q (.bl (decide (V.non = .non))) H := fun H h => ⟨rfl, by rw [decide_eq_true rfl]; exact q H h⟩
theorem e_noO {o : Option α} [ElN E] (t : Take (vl (kO E) v o) L R) (q : Ent L (Q (.bl (!o.isNone)))) : Ent L fun H => V.non = .non ∧ Q (.bl (!decide (v = .non))) H := fun H h => ⟨rfl, by
  have e : decide (v = V.non) = o.isNone := by
    have z := t.vl h
    cases o with
    | none => obtain rfl : v = .non := z; simp
    | some w => simpa using ElN.nv (E := E) H v w z
  rw [e]
  exact q H h⟩
theorem e_noOF (hv : v ≠ .non) (q : Ent L (Q (.bl true))) : Ent L fun H => V.non = .non ∧ Q (.bl (!decide (v = .non))) H := fun H h => ⟨rfl, by rw [decide_eq_false hv]; exact q H h⟩
theorem e_noOT (q : Ent L (Q (.bl false))) : Ent L fun H => V.non = .non ∧ Q (.bl (!decide (V.non = .non))) H := fun H h => ⟨rfl, by rw [decide_eq_true rfl]; exact q H h⟩
theorem e_eqC [DecidableEq α] {C : Ct K α} {i j : α} (h1 : IsC C L x i) (h2 : IsC C L y j) (q : Ent L (Q (.bl (decide (i = j))))) : Ent L fun H => rEqC C x y H Q := fun H h => ⟨i, j, h1 H h, h2 H h, q H h⟩
theorem e_neC [DecidableEq α] {C : Ct K α} {i j : α} (h1 : IsC C L x i) (h2 : IsC C L y j) (q : Ent L (Q (.bl (!decide (i = j))))) : Ent L fun H => rNeC C x y H Q := fun H h => ⟨i, j, h1 H h, h2 H h, q H h⟩
theorem e_inLs {xs : List Int} {i : Int} (t : Take (ls (K := K) kI l xs) L R) (q : Ent L (Q (.bl (decide (i ∈ xs))))) : Ent L fun H => rIn K false (.int i) (.ref l) H Q := fun H h => by
  obtain ⟨vs, h1, h2⟩ := t.ls h
  obtain rfl := all2_I h2
  exact ⟨l, _, rfl, .inl (SqL.of h1), rfl, flat_ints _, by rw [inV_int]; exact q H h⟩
theorem e_niLs {xs : List Int} {i : Int} (t : Take (ls (K := K) kI l xs) L R) (q : Ent L (Q (.bl (!decide (i ∈ xs))))) : Ent L fun H => rIn K true (.int i) (.ref l) H Q := fun H h => by
  obtain ⟨vs, h1, h2⟩ := t.ls h
  obtain rfl := all2_I h2
  exact ⟨l, _, rfl, .inl (SqL.of h1), rfl, flat_ints _, by rw [inV_int]; exact q H h⟩
/-! ### ends of turns, of joined ways -/
theorem c_end {nxt : M → Prop} {sg : M → B → St} {Pv : M → B → List HA} {m : M} (hm : nxt m) (b : B) (h : σ = sg m b) (s : Sub L (Pv m b)) : Ent L fun H => ∃ m b, nxt m ∧ σ = sg m b ∧ Holds (Pv m b) H := fun H z => ⟨m, b, hm, h, s.to z⟩
theorem c_brk {k : M → Prop} {sg : M → B → St} {Pv : M → B → List HA} {m : M} (hb : ∀ m b, k m → Ent (Pv m b) (nx (sg m b))) (hm : k m) (b : B) (h : σ = sg m b) (s : Sub L (Pv m b)) : Ent L (nx σ) := by
  subst h
  exact (hb m b hm).sub s
/-- ways joined behind a statement -/
theorem c_cut {B0 : Type} {k : M → Prop} {f : (M → Prop) → Prop} {t u : TS} (hm : jn k f) (u0 : B0 → List (Option (Option V))) (P0 : B0 → List HA) (up : M → B → List (Option (Option V))) (Pm : M → B → List HA) (b0 : B0) (h0 : σ = upds σ (u0 b0)) (s0 : Sub L (P0 b0 ++ R))
    (q : ∀ jp : M → Prop, f jp → Ent (P0 b0 ++ R) fun H => t ⟨fun σ' H' => ∃ m b, jp m ∧ σ' = upds σ (up m b) ∧ Holds (Pm m b ++ R) H', rt, bk, ct⟩ σ H)
    (hd : ∀ m b, k m → Ent (Pm m b ++ R) fun H => u ⟨nx, rt, bk, ct⟩ (upds σ (up m b)) H) : Ent L fun H => Evl.tCut t u ⟨nx, rt, bk, ct⟩ σ H := fun H h =>
  ⟨_, q k hm H (s0.to h), fun σ' H' ⟨m, b, hk, e, z⟩ => by subst e; exact hd m b hk H' z⟩
/-- a test looked through whole, ahead of its ways -/
theorem c_cutT {k : Bool → Prop} {f : (Bool → Prop) → Prop} {c : TT} {Q : Bool → Hp → Prop} (hm : jn k f) (q : ∀ jp : Bool → Prop, f jp → Ent L fun H => c σ H fun b H' => jp b ∧ Holds L H') (hd : ∀ b, k b → Ent L (Q b)) : Ent L fun H => tCutT c σ H Q := fun H h =>
  ⟨_, q k hm H h, fun b H' ⟨hk, z⟩ => hd b hk H' z⟩
theorem c_endT {jp : Bool → Prop} {b : Bool} (hm : jp b) (s : Sub L R) : Ent L fun H => jp b ∧ Holds R H := fun H h => ⟨hm, s.to h⟩
/-- an expression of one kind looked through whole -/
theorem c_cutE {k : α → Prop} {f : (α → Prop) → Prop} {te : TE} (E : El K α) (hm : jn k f) (q : ∀ jp : α → Prop, f jp → Ent L fun H => te σ H fun v H' => ∃ x, jp x ∧ Holds (vl E v x :: L) H') (hd : ∀ x, k x → ∀ v, Ent (vl E v x :: L) (Q v)) : Ent L fun H => tCutE te σ H Q := fun H h =>
  ⟨_, q k hm H h, fun v H' ⟨x, hk, z⟩ => hd x hk v H' z⟩
theorem c_endE {jp : α → Prop} {x : α} (hm : jp x) (s : Sub L (vl E v x :: R)) : Ent L fun H => ∃ x, jp x ∧ Holds (vl E v x :: R) H := fun H h => ⟨x, hm, s.to h⟩
/-! ### loops -/
theorem c_forLs {xs : List α} {m0 : M} {bd : α → M → (M → Prop) → (M → Prop) → Prop} {k : M → Prop} {g : TG} {tb : TS} (hm : forL xs m0 bd k) (up : M → B → List (Option (Option V))) (Pm : M → B → List HA) (b0 : B) (h0 : σ = upds σ (up m0 b0)) (s0 : Sub L (Pm m0 b0 ++ R)) (t : Take (ls E l xs) R R')
    (hs : (∀ m b, k m → Ent (Pm m b ++ R) (nx (upds σ (up m b)))) → ∀ x m b (nxt : M → Prop), bd x m nxt k → ∀ v, Ent (vl E v x :: (Pm m b ++ R)) fun H => g v (upds σ (up m b)) H fun σ2 H2 => tb ⟨fun σ' H' => ∃ m b, nxt m ∧ σ' = upds σ (up m b) ∧ Holds (Pm m b ++ R) H', rt, nx, fun σ' H' => ∃ m b, nxt m ∧ σ' = upds σ (up m b) ∧ Holds (Pm m b ++ R) H'⟩ σ2 H2)
    (hd : ∀ m b, k m → Ent (Pm m b ++ R) (nx (upds σ (up m b)))) : Ent L fun H => kFL K g tb ⟨nx, rt, bk, ct⟩ σ (.ref l) H := fun H h => by
  have w := walk_ls (E := E) l xs
  have hL : ∀ m b H', Holds (Pm m b ++ R) H' → ∃ vs, H' l = some (.lst vs) ∧ All2 (E.P H') vs xs := fun m b H' z => by
    obtain ⟨S, z⟩ := z
    obtain ⟨S1, S2, _, z2, _⟩ := HL.app.mp z
    exact t.ls ⟨S2, z2⟩
  have z := for_it w (D := ⟨nx, rt, bk, ct⟩) (g := g) (tb := tb) (σ := σ) (H := H) (fun i σ' H' => ∃ m b, forL (xs.drop i) m bd k ∧ i ≤ xs.length ∧ σ' = upds σ (up m b) ∧ Holds (Pm m b ++ R) H') ⟨m0, b0, hm, Nat.zero_le _, h0, s0.to h⟩ (fun i σ' H' _ ⟨m, b, _, _, _, z⟩ => hL m b H' z) (fun i x σ' H' H'' hi ⟨m, b, hf, _, e, z⟩ ⟨e2, y, hy, hp⟩ => by
      subst e e2
      have ed : xs.drop i = y :: xs.drop (i + 1) := by
        rw [List.drop_eq_getElem_cons hi]
        congr 1
        exact Option.some.inj ((List.getElem?_eq_getElem hi).symm.trans hy)
      rw [ed, forL_cons] at hf
      have r := hs hd y m b (fun m' => forL (xs.drop (i + 1)) m' bd k ∧ i + 1 ≤ xs.length) (by
        have : (fun m' => forL (xs.drop (i + 1)) m' bd k ∧ i + 1 ≤ xs.length) = fun m' => forL (xs.drop (i + 1)) m' bd k := by
          funext m'
          exact propext ⟨fun z => z.1, fun z => ⟨z, hi⟩⟩
        rw [this]
        exact hf) x H'' (z.vl hp)
      simpa only [and_assoc] using r) (fun σ' H' ⟨m, b, hf, _, e, z⟩ => by
      subst e
      rw [List.drop_length] at hf
      exact hd m b hf H' z)
  obtain ⟨vs, h1, h2⟩ := hL m0 b0 H (s0.to h)
  exact ⟨l, rfl, ⟨vs, SqL.of h1⟩, z⟩
def rgI (lo : Int) (n : Nat) : List Int := (List.range n).map fun i : Nat => lo + i
theorem rgI_len {lo : Int} {n : Nat} : (rgI lo n).length = n := by simp [rgI]
theorem rgI_get {lo : Int} {n i : Nat} (h : i < n) : (rgI lo n)[i]? = some (lo + i) := by simp [rgI, h]
theorem mem_rgI {lo : Int} {n : Nat} {i : Int} : i ∈ rgI lo n ↔ lo ≤ i ∧ i < lo + n := by
  unfold rgI
  rw [List.mem_map]
  constructor
  · rintro ⟨j, hj, rfl⟩
    rw [List.mem_range] at hj
    omega
  · intro ⟨h1, h2⟩
    exact ⟨(i - lo).toNat, by rw [List.mem_range]; omega, by omega⟩
theorem c_forR {j : Int} {m0 : M} {bd : Int → M → (M → Prop) → (M → Prop) → Prop} {k : M → Prop} {g : TG} {tb : TS} (hm : grd (-100000000 ≤ j ∧ j < 100000000) (forL (rgI 0 j.toNat) m0 bd k)) (up : M → B → List (Option (Option V))) (Pm : M → B → List HA) (b0 : B) (h0 : σ = upds σ (up m0 b0)) (s0 : Sub L (Pm m0 b0 ++ R))
    (hs : (∀ m b, k m → Ent (Pm m b ++ R) (nx (upds σ (up m b)))) → ∀ (x : Int) m b (nxt : M → Prop), bd x m nxt k → Ent (Pm m b ++ R) fun H => g (.int x) (upds σ (up m b)) H fun σ2 H2 => tb ⟨fun σ' H' => ∃ m b, nxt m ∧ σ' = upds σ (up m b) ∧ Holds (Pm m b ++ R) H', rt, nx, fun σ' H' => ∃ m b, nxt m ∧ σ' = upds σ (up m b) ∧ Holds (Pm m b ++ R) H'⟩ σ2 H2)
    (hd : ∀ m b, k m → Ent (Pm m b ++ R) (nx (upds σ (up m b)))) : Ent L fun H => kR1 g tb ⟨nx, rt, bk, ct⟩ σ [.int j] H := fun H h => by
  refine w_range1 (fun i σ' H' => ∃ m b, forL ((rgI 0 j.toNat).drop i) m bd k ∧ i ≤ j.toNat ∧ σ' = upds σ (up m b) ∧ Holds (Pm m b ++ R) H') hm.1 ⟨m0, b0, hm.2, Nat.zero_le _, h0, s0.to h⟩ (fun i σ' H' hi ⟨m, b, hf, _, e, z⟩ => ?_) (fun σ' H' ⟨m, b, hf, _, e, z⟩ => ?_)
  · subst e
    have hi' : i < j.toNat := by omega
    have ed : (rgI 0 j.toNat).drop i = (i : Int) :: (rgI 0 j.toNat).drop (i + 1) := by
      rw [List.drop_eq_getElem_cons (by rw [rgI_len]; exact hi')]
      congr 1
      have := rgI_get (lo := 0) hi'
      rw [List.getElem?_eq_getElem (by rw [rgI_len]; exact hi')] at this
      have := Option.some.inj this
      omega
    rw [ed, forL_cons] at hf
    have r := hs hd i m b (fun m' => forL ((rgI 0 j.toNat).drop (i + 1)) m' bd k ∧ i + 1 ≤ j.toNat) (by
        have : (fun m' => forL ((rgI 0 j.toNat).drop (i + 1)) m' bd k ∧ i + 1 ≤ j.toNat) = fun m' => forL ((rgI 0 j.toNat).drop (i + 1)) m' bd k := by
          funext m'
          exact propext ⟨fun z => z.1, fun z => ⟨z, hi'⟩⟩
        rw [this]
        exact hf) H' z
    simpa only [and_assoc] using r
  · subst e
    rw [List.drop_eq_nil_of_le (by rw [rgI_len]; exact Nat.le_refl _)] at hf
    exact hd m b hf H' z
/-! ### comprehensions -/
theorem c_lcLs {xs : List α} {bd : α → (Option β → Prop) → Prop} {k : List β → Prop} {g : TG} {tt : TT} {te : TE} {vs : List Nat} (E' : El K β) (hm : grd (xs.length ≤ 100000) (lcL xs [] bd k)) (t : Take (ls E l xs) L R)
    (step : ∀ x (nxt : Option β → Prop), bd x nxt → ∀ v D ys (r : VK) (s : Hp → Prop), (∀ v' y, nxt (some y) → Ent (vl E' v' y :: ls E' D ys :: L) (r v')) → (nxt none → Ent (ls E' D ys :: L) s) → Ent (vl E v x :: ls E' D ys :: L) fun H => g v (wipe σ vs) H fun σ2 H2 => wipe σ2 vs = wipe σ vs ∧ tt σ2 H2 fun b H3 => if b = true then te σ2 H3 r else s H3)
    (q : ∀ ys, k ys → ∀ D, Ent (ls E' D ys :: L) (Q (.ref D))) : Ent L fun H => kLc K g tt te vs σ Q (.ref l) H := fun H h => by
  obtain ⟨hz, hm⟩ := hm
  obtain ⟨ws, h1, h2⟩ := t.ls h
  refine ⟨l, rfl, ⟨ws, SqL.of h1⟩, fun D nD => ?_⟩
  refine lc_it (walk_ls (E := E) l xs) (fun i H' => ∃ ys, lcL (xs.drop i) ys bd k ∧ i ≤ xs.length ∧ ys.length ≤ i ∧ Holds (ls E' D ys :: L) H') ⟨[], hm, Nat.zero_le _, Nat.le_refl _, h.ls_new nD .nil⟩ (fun i H' _ ⟨ys, _, _, _, p⟩ => t.ls (Sub.to (Sub.drop Sub.refl) p)) (fun i v H' H'' hi ⟨ys, hf, _, hy, p⟩ ⟨e, x, hx, hp⟩ => ?_) (fun H' ⟨ys, hf, _, _, p⟩ => q ys (by rw [List.drop_length] at hf; exact hf) D H' p)
  subst e
  have ed : xs.drop i = x :: xs.drop (i + 1) := by
    rw [List.drop_eq_getElem_cons hi]
    congr 1
    exact Option.some.inj ((List.getElem?_eq_getElem hi).symm.trans hx)
  rw [ed, lcL] at hf
  refine step x _ hf v D ys _ _ (fun v' y hy' H4 z => ?_) (fun hn H3 z => ?_) _ (p.vl hp)
  · obtain ⟨ac, z1, z2⟩ := Holds.ls_op (Sub.to (Sub.drop Sub.refl) z)
    have z3 : E'.P H4 v' y := Take.vl take_here z
    refine ⟨ac, z1.pt_get, ?_, ys ++ [y], hy', hi, by simp; omega, Holds.ls_upd (Sub.to (Sub.drop Sub.refl) z) (z2.app (.one z3))⟩
    rw [z2.len]
    exact Nat.lt_of_le_of_lt (by omega : ys.length ≤ 100000) (by decide : 100000 < sizeLine)
  · exact ⟨ys, by simpa using hn, hi, by omega, z⟩
/-! ### opening on demand -/
theorem c_opnIx {Es : Els K α} {x : α} {i : V} (t : Take (vl (kTup Es) v x) L R) (q : ∀ a us, v = .ref a → Ent (vEls Es us x :: tu a us :: L) fun H => rIxT K v i H Q) : Ent L fun H => rIxT K v i H Q := Ent.tupO t q
theorem c_opnG {Es : Els K α} {x : α} {n : Nat} {ts : TGs} {Q : St → Hp → Prop} (t : Take (vl (kTup Es) v x) L R) (q : ∀ a us, v = .ref a → Ent (vEls Es us x :: tu a us :: L) fun H => gTup K n ts v σ H Q) : Ent L fun H => gTup K n ts v σ H Q := Ent.tupO t q
theorem Ent.swp {A B : HA} (q : Ent (B :: A :: L) φ) : Ent (A :: B :: L) φ := q.sub Sub.swap
/-! ### more of lists -/
theorem e_appDrop {xs : List α} {y : V} {k : Prop} (hm : grd (xs.length ≤ 100000) k) (t : Take (ls E l xs) L R) (q : k → Ent R (Q .non)) : Ent L fun H => rAppend (.ref l) [y] H Q := fun H h => by
  obtain ⟨vs, h1, h2⟩ := t.ls h
  obtain ⟨ws, h3, _⟩ := (t.to h).ls_op
  exact ⟨l, vs, y, rfl, rfl, h1, by rw [h2.len]; exact Nat.lt_of_le_of_lt hm.1 (by decide), q hm.2 _ (Sub.to (Sub.drop Sub.refl) (h3.upd (u := .lst (vs ++ [y])) rfl))⟩
def srt (ns : List Int) : List Int := ns.mergeSort fun a b => decide (a ≤ b)
theorem srt_perm (ns : List Int) : (srt ns).Perm ns := List.mergeSort_perm ..
theorem srt_le (ns : List Int) : (srt ns).Pairwise (· ≤ ·) := by
  have := List.pairwise_mergeSort (le := fun a b : Int => decide (a ≤ b)) (fun a b c h1 h2 => by simp at *; omega) (fun a b => by simp; omega) ns
  exact this.imp fun h => by simpa using h
theorem perm_srt : ∀ {xs ys : List Int}, xs.Perm ys → xs.Pairwise (· ≤ ·) → ys.Pairwise (· ≤ ·) → xs = ys
  | [], ys, p, _, _ => (List.Perm.nil_eq p)
  | x :: xs, [], p, _, _ => absurd p.length_eq (by simp)
  | x :: xs, y :: ys, p, h1, h2 => by
    have e : x = y := by
      have hx : x ∈ y :: ys := p.mem_iff.mp (List.mem_cons_self ..)
      have hy : y ∈ x :: xs := p.mem_iff.mpr (List.mem_cons_self ..)
      rcases List.mem_cons.mp hx with e | hx
      · exact e
      · rcases List.mem_cons.mp hy with e | hy
        · exact e.symm
        · have a := (List.pairwise_cons.mp h2).1 x hx
          have b := (List.pairwise_cons.mp h1).1 y hy
          omega
    subst e
    rw [perm_srt (List.Perm.cons_inv p) (List.pairwise_cons.mp h1).2 (List.pairwise_cons.mp h2).2]
theorem srt_eq {ns ms : List Int} (p : ms.Perm ns) (h : ms.Pairwise (· ≤ ·)) : srt ns = ms := perm_srt ((srt_perm ns).trans p.symm) (srt_le ns) h
theorem srt_self {ns : List Int} (h : ns.Pairwise (· ≤ ·)) : srt ns = ns := srt_eq (List.Perm.refl _) h
theorem e_sort {ns : List Int} (t : Take (ls (kI (K := K)) l ns) L R) (q : ∀ p, Ent (ls (kI (K := K)) p (srt ns) :: L) (Q (.ref p))) : Ent L fun H => rSortedI K [.ref l] H Q := e_sortI t fun ns' p hp hs => by rw [← srt_eq hp hs]; exact q p
def enF {α : Type} : Int → List α → List (Int × α)
  | _, [] => []
  | i, x :: xs => (i, x) :: enF (i + 1) xs
def enI {α : Type} (xs : List α) : List (Int × α) := enF 0 xs
theorem enF_len : ∀ {j : Int} {xs : List α}, (enF j xs).length = xs.length
  | _, [] => rfl
  | j, x :: xs => by simp [enF, enF_len (xs := xs)]
theorem enI_len {xs : List α} : (enI xs).length = xs.length := enF_len
theorem enF_get : ∀ {j : Int} {xs : List α} {i : Nat} {x : α}, xs[i]? = some x → (enF j xs)[i]? = some (j + (i : Int), x)
  | j, [], i, x, h => by simp at h
  | j, y :: xs, 0, x, h => by simp at h; subst h; simp [enF]
  | j, y :: xs, i + 1, x, h => by
    have := enF_get (j := j + 1) (xs := xs) (i := i) (x := x) (by simpa using h)
    simp only [enF, List.getElem?_cons_succ, this]
    congr 2
    omega
theorem enI_get {xs : List α} {i : Nat} {x : α} (h : xs[i]? = some x) : (enI xs)[i]? = some ((i : Int), x) := by
  have := enF_get (j := 0) h
  rwa [Int.zero_add] at this
theorem enI_of {xs : List α} {i : Nat} {p : Int × α} (h : (enI xs)[i]? = some p) : p.1 = i ∧ xs[i]? = some p.2 := by
  have hi := (List.getElem?_eq_some_iff.mp h).1
  rw [enI_len] at hi
  have := enI_get (List.getElem?_eq_getElem hi)
  rw [h] at this
  obtain rfl := Option.some.inj this
  exact ⟨rfl, List.getElem?_eq_getElem hi⟩
theorem enI_map {xs : List α} : (enI xs).map (·.2) = xs := by
  unfold enI
  generalize (0 : Int) = j
  induction xs generalizing j with
  | nil => rfl
  | cons x xs ih => simp [enF, ih]
/-- [.. for i, x in enumerate(l)] -/
theorem c_lcEn {xs : List α} {bd : Int × α → (Option β → Prop) → Prop} {k : List β → Prop} {g : TG} {tt : TT} {te : TE} {vs : List Nat} (E' : El K β) (hm : grd (xs.length ≤ 100000) (lcL (enI xs) [] bd k)) (t : Take (ls E l xs) L R)
    (step : ∀ x (nxt : Option β → Prop), bd x nxt → ∀ T v D ys (r : VK) (s : Hp → Prop), (∀ v' y, nxt (some y) → Ent (vl E' v' y :: ls E' D ys :: L) (r v')) → (nxt none → Ent (ls E' D ys :: L) s) → Ent (tu T [.int x.1, v] :: vl E v x.2 :: ls E' D ys :: L) fun H => g (.ref T) (wipe σ vs) H fun σ2 H2 => wipe σ2 vs = wipe σ vs ∧ tt σ2 H2 fun b H3 => if b = true then te σ2 H3 r else s H3)
    (q : ∀ ys, k ys → ∀ D, Ent (ls E' D ys :: L) (Q (.ref D))) : Ent L fun H => kLcEn K g tt te vs σ Q [.ref l] H := fun H h => by
  obtain ⟨hz, hm⟩ := hm
  obtain ⟨ws, h1, h2⟩ := t.ls h
  refine ⟨l, ws, rfl, SqL.of h1, fun D nD => ?_⟩
  have w : Walk (Ite K l) xs.length (fun H => ∃ vs, H l = some (.lst vs) ∧ All2 (E.P H) vs xs) (fun i H v H' => ∃ T x u, v = .ref T ∧ H T = none ∧ H' = upd H T (.tup [.int i, u]) ∧ xs[i]? = some x ∧ E.P H u x) :=
    ⟨fun i H hi ⟨vs, z1, z2⟩ => (walk_enum (K := K) (a := l) (xs := vs)).goes i H (by rw [z2.len]; exact hi) (SqL.of z1), fun H ⟨vs, z1, z2⟩ => by
      have := (walk_enum (K := K) (a := l) (xs := vs)).stops H (SqL.of z1)
      rw [z2.len] at this
      exact this, fun i H x H' hi ⟨vs, z1, z2⟩ y => by
      obtain ⟨T, a, b, e1, e2, e3, e4, e5⟩ := (walk_enum (K := K) (a := l) (xs := vs)).yields i H x H' (by rw [z2.len]; exact hi) (SqL.of z1) y
      obtain rfl : V.int (i : Nat) = a := Option.some.inj e4
      obtain ⟨x', hx, hp⟩ := z2.get e5
      exact ⟨T, x', b, e1, e2, e3, hx, hp⟩⟩
  refine lc_it w (fun i H' => ∃ ys, lcL ((enI xs).drop i) ys bd k ∧ i ≤ xs.length ∧ ys.length ≤ i ∧ Holds (ls E' D ys :: L) H') ⟨[], hm, Nat.zero_le _, Nat.le_refl _, h.ls_new nD .nil⟩ (fun i H' _ ⟨ys, _, _, _, p⟩ => t.ls (Sub.to (Sub.drop Sub.refl) p)) (fun i v H' H'' hi ⟨ys, hf, _, hy, p⟩ ⟨T, x, u, e, nT, eH, hx, hp⟩ => ?_) (fun H' ⟨ys, hf, _, _, p⟩ => q ys (by rw [List.drop_eq_nil_of_le (by rw [enI_len]; exact Nat.le_refl _)] at hf; exact hf) D H' p)
  subst e eH
  have ed : (enI xs).drop i = ((i : Int), x) :: (enI xs).drop (i + 1) := by
    rw [List.drop_eq_getElem_cons (by rw [enI_len]; exact hi)]
    congr 1
    exact Option.some.inj ((List.getElem?_eq_getElem (by rw [enI_len]; exact hi)).symm.trans (enI_get hx))
  rw [ed, lcL] at hf
  have z0 : Holds (tu T [.int i, u] :: vl E u x :: ls E' D ys :: L) (upd H' T (.tup [.int i, u])) := Sub.to Sub.swap (by
    have z := (p.newI (o := .tup [.int i, u]) nT rfl).vl (E := E) (x := x) (v := u) (E.st hp (keepI_new nT))
    exact z)
  refine step ((i : Int), x) _ hf T u D ys _ _ (fun v' y hy' H4 z => ?_) (fun hn H3 z => ?_) _ z0
  · obtain ⟨ac, z1, z2⟩ := Holds.ls_op (Sub.to (Sub.drop Sub.refl) z)
    have z3 : E'.P H4 v' y := Take.vl take_here z
    refine ⟨ac, z1.pt_get, ?_, ys ++ [y], hy', hi, by simp; omega, Holds.ls_upd (Sub.to (Sub.drop Sub.refl) z) (z2.app (.one z3))⟩
    rw [z2.len]
    exact Nat.lt_of_le_of_lt (by omega : ys.length ≤ 100000) (by decide : 100000 < sizeLine)
  · exact ⟨ys, by simpa using hn, hi, by omega, z⟩
theorem take_of {A : HA} (h : Sub L (A :: R)) : Take A L R := h
def rIsN : R2 := fun x y H Q => y = .non ∧ Q (.bl (decide (x = .non))) H
def rNoN : R2 := fun x y H Q => y = .non ∧ Q (.bl (!decide (x = .non))) H
theorem op_isNR {X : Cx} : OpR X (compareOp .Is) rIsN := op_isN
theorem op_noNR {X : Cx} : OpR X (compareOp .IsNot) rNoN := op_notN
theorem c_isO {o : Option α} (t : Take (vl (kO E) v o) L R) (n : ElN E) (q : Ent L (Q (.bl o.isNone))) : Ent L fun H => rIsN v .non H Q := e_isO t q
theorem c_isF (hv : v ≠ .non) (q : Ent L (Q (.bl false))) : Ent L fun H => rIsN v .non H Q := e_isOF hv q
theorem c_isT (q : Ent L (Q (.bl true))) : Ent L fun H => rIsN .non .non H Q := e_isOT q
theorem c_noO {o : Option α} (t : Take (vl (kO E) v o) L R) (n : ElN E) (q : Ent L (Q (.bl (!o.isNone)))) : Ent L fun H => rNoN v .non H Q := e_noO t q
theorem c_noF (hv : v ≠ .non) (q : Ent L (Q (.bl true))) : Ent L fun H => rNoN v .non H Q := e_noOF hv q
theorem c_noT (q : Ent L (Q (.bl false))) : Ent L fun H => rNoN .non .non H Q := e_noOT q
theorem rt_law {b : Bool} {Q : VK} (hm : b = true) (q : ∀ H', Q (.bl true) H') : Ent L (Q (.bl b)) := fun H _ => by rw [hm]; exact q H
theorem c_ixT {xs : List α} {i : Int} {k : α → Prop} (hm : obx (atI xs i) k) (t : Take (vl (kT E) v xs) L R) (q : ∀ w, k w → ∀ u, Ent (vl E u w :: L) (Q u)) : Ent L fun H => rIxT K v (.int i) H Q := fun H h => by
  obtain ⟨w, e, hk⟩ := hm
  obtain ⟨a, us, rfl, h1, h2⟩ := t.vl h
  have el := h2.len
  unfold atI at e
  cases j : ixN xs.length i with
  | none => rw [j] at e; cases e
  | some j' =>
    rw [j] at e
    obtain ⟨u, hu, hp⟩ := h2.getR e
    exact ⟨a, us, i, u, rfl, rfl, h1, by unfold atI; rw [el, j]; exact hu, q w hk u H (h.vl hp)⟩
theorem c_lenT {xs : List α} (t : Take (vl (kT E) v xs) L R) (q : Ent L (Q (.int xs.length))) : Ent L fun H => rLenK K [v] H Q := fun H h => by
  obtain ⟨a, us, rfl, h1, h2⟩ := t.vl h
  exact ⟨a, us, rfl, .inr h1, by rw [h2.len]; exact q H h⟩
theorem walk_kT (xs : List α) (us : List V) (a : Addr) : Walk (Itt K a) xs.length (fun H => SqT K H a us ∧ All2 (E.P H) us xs) (fun i H x H' => H' = H ∧ ∃ e, xs[i]? = some e ∧ E.P H x e) :=
  ⟨fun i H hi ⟨h1, h2⟩ => by
    obtain ⟨v, hv, _⟩ := h2.getR (List.getElem?_eq_getElem hi)
    exact ⟨us, v, h1, hv⟩, fun H ⟨h1, h2⟩ => ⟨us, h1, Nat.le_of_eq h2.len⟩, fun i H x H' hi ⟨h1, h2⟩ ⟨e, y⟩ => ⟨e, h2.get (y us h1)⟩⟩
theorem walk_kT' (xs : List α) (a : Addr) : Walk (Itt K a) xs.length (fun H => (kT E).P H (.ref a) xs) (fun i H x H' => H' = H ∧ ∃ e, xs[i]? = some e ∧ E.P H x e) :=
  ⟨fun i H hi ⟨a', us, e, h1, h2⟩ => by
    cases e
    exact (walk_kT xs us a).goes i H hi ⟨h1, h2⟩, fun H ⟨a', us, e, h1, h2⟩ => by
    cases e
    exact (walk_kT xs us a).stops H ⟨h1, h2⟩, fun i H x H' hi ⟨a', us, e, h1, h2⟩ y => by
    cases e
    exact (walk_kT xs us a).yields i H x H' hi ⟨h1, h2⟩ y⟩
theorem c_forT {xs : List α} {m0 : M} {bd : α → M → (M → Prop) → (M → Prop) → Prop} {k : M → Prop} {g : TG} {tb : TS} (hm : forL xs m0 bd k) (up : M → B → List (Option (Option V))) (Pm : M → B → List HA) (b0 : B) (h0 : σ = upds σ (up m0 b0)) (s0 : Sub L (Pm m0 b0 ++ R)) (t : Take (vl (kT E) v xs) R R')
    (hs : (∀ m b, k m → Ent (Pm m b ++ R) (nx (upds σ (up m b)))) → ∀ x m b (nxt : M → Prop), bd x m nxt k → ∀ v, Ent (vl E v x :: (Pm m b ++ R)) fun H => g v (upds σ (up m b)) H fun σ2 H2 => tb ⟨fun σ' H' => ∃ m b, nxt m ∧ σ' = upds σ (up m b) ∧ Holds (Pm m b ++ R) H', rt, nx, fun σ' H' => ∃ m b, nxt m ∧ σ' = upds σ (up m b) ∧ Holds (Pm m b ++ R) H'⟩ σ2 H2)
    (hd : ∀ m b, k m → Ent (Pm m b ++ R) (nx (upds σ (up m b)))) : Ent L fun H => kFT K g tb ⟨nx, rt, bk, ct⟩ σ v H := fun H h => by
  have hT : ∀ m b H', Holds (Pm m b ++ R) H' → (kT E).P H' v xs := fun m b H' z => by
    obtain ⟨S, z⟩ := z
    obtain ⟨S1, S2, _, z2, _⟩ := HL.app.mp z
    exact t.vl ⟨S2, z2⟩
  obtain ⟨a, us, e, h1, h2⟩ := hT m0 b0 H (s0.to h)
  subst e
  have z := for_it (walk_kT' (E := E) xs a) (D := ⟨nx, rt, bk, ct⟩) (g := g) (tb := tb) (σ := σ) (H := H) (fun i σ' H' => ∃ m b, forL (xs.drop i) m bd k ∧ i ≤ xs.length ∧ σ' = upds σ (up m b) ∧ Holds (Pm m b ++ R) H') ⟨m0, b0, hm, Nat.zero_le _, h0, s0.to h⟩ (fun i σ' H' _ ⟨m, b, _, _, _, z⟩ => hT m b H' z) (fun i x σ' H' H'' hi ⟨m, b, hf, _, e, z⟩ ⟨e2, y, hy, hp⟩ => by
      subst e e2
      have ed : xs.drop i = y :: xs.drop (i + 1) := by
        rw [List.drop_eq_getElem_cons hi]
        congr 1
        exact Option.some.inj ((List.getElem?_eq_getElem hi).symm.trans hy)
      rw [ed, forL_cons] at hf
      have r := hs hd y m b (fun m' => forL (xs.drop (i + 1)) m' bd k ∧ i + 1 ≤ xs.length) (by
        have : (fun m' => forL (xs.drop (i + 1)) m' bd k ∧ i + 1 ≤ xs.length) = fun m' => forL (xs.drop (i + 1)) m' bd k := by
          funext m'
          exact propext ⟨fun z => z.1, fun z => ⟨z, hi⟩⟩
        rw [this]
        exact hf) x H'' (z.vl hp)
      simpa only [and_assoc] using r) (fun σ' H' ⟨m, b, hf, _, e, z⟩ => by
      subst e
      rw [List.drop_length] at hf
      exact hd m b hf H' z)
  exact ⟨a, rfl, ⟨us, h1⟩, z⟩
abbrev max2 (i j : Int) : Int := if j > i then j else i
abbrev min2 (i j : Int) : Int := if j < i then j else i
def minI : List Int → Option Int
  | [] => none
  | x :: xs => some (xs.foldl (fun a b => if b < a then b else a) x)
def maxI : List Int → Option Int
  | [] => none
  | x :: xs => some (xs.foldl (fun a b => if b > a then b else a) x)
theorem minI_of : ∀ {ns : List Int} {w : Int}, minI ns = some w → w ∈ ns ∧ ∀ x ∈ ns, w ≤ x
  | [], w, h => by cases h
  | x :: xs, w, h => by
    have key : ∀ (ys : List Int) (a : Int), (ys.foldl (fun a b => if b < a then b else a) a = a ∨ ys.foldl (fun a b => if b < a then b else a) a ∈ ys) ∧ ys.foldl (fun a b => if b < a then b else a) a ≤ a ∧ ∀ y ∈ ys, ys.foldl (fun a b => if b < a then b else a) a ≤ y := by
      intro ys
      induction ys with
      | nil => intro a; simp
      | cons y ys ih =>
        intro a
        obtain ⟨h1, h2, h3⟩ := ih (if y < a then y else a)
        simp only [List.foldl_cons]
        refine ⟨?_, ?_, fun z hz => ?_⟩
        · rcases h1 with h1 | h1
          · rw [h1]
            by_cases c : y < a
            · rw [if_pos c]; exact .inr (List.mem_cons_self ..)
            · rw [if_neg c]; exact .inl rfl
          · exact .inr (List.mem_cons_of_mem _ h1)
        · by_cases c : y < a
          · rw [if_pos c] at h2 ⊢; omega
          · rw [if_neg c] at h2 ⊢; exact h2
        · rcases List.mem_cons.mp hz with e | hz
          · subst e
            by_cases c : z < a
            · rw [if_pos c] at h2 ⊢; exact h2
            · rw [if_neg c] at h2 ⊢; omega
          · exact h3 z hz
    obtain rfl : xs.foldl (fun a b => if b < a then b else a) x = w := Option.some.inj h
    obtain ⟨h1, h2, h3⟩ := key xs x
    refine ⟨?_, fun z hz => ?_⟩
    · rcases h1 with h1 | h1
      · rw [h1]; exact List.mem_cons_self ..
      · exact List.mem_cons_of_mem _ h1
    · rcases List.mem_cons.mp hz with e | hz
      · subst e; exact h2
      · exact h3 z hz
theorem c_min {ns : List Int} {k : Int → Prop} (hm : obx (minI ns) k) (t : Take (ls (kI (K := K)) l ns) L R) (q : ∀ w, k w → Ent L (Q (.int w))) : Ent L fun H => rMin K [.ref l] H Q := fun H h => by
  obtain ⟨w, e, hk⟩ := hm
  obtain ⟨vs, h1, h2⟩ := t.ls h
  obtain rfl := all2_I h2
  obtain ⟨e1, e2⟩ := minI_of e
  refine ⟨l, ns, rfl, SqL.of h1, List.length_pos_of_mem e1, fun m hm hle => ?_⟩
  have a := hle w e1
  have b := e2 m hm
  obtain rfl : m = w := by omega
  exact q m hk H h
theorem all2_rep {r : V → α → Prop} {us : List V} {xs : List α} (h : All2 r us xs) : ∀ n : Nat, All2 r (List.replicate n us).flatten (List.replicate n xs).flatten
  | 0 => .nil
  | n + 1 => by
    rw [List.replicate_succ, List.replicate_succ, List.flatten_cons, List.flatten_cons]
    exact h.app (all2_rep h n)
theorem c_rep {xs : List α} {n : Int} {k : Prop} (hm : grd (-100000 ≤ n ∧ n ≤ 100000 ∧ xs.length ≤ 100) k) (t : Take (ls E l xs) L R) (q : k → ∀ p, Ent (ls E p (List.replicate n.toNat xs).flatten :: L) (Q (.ref p))) : Ent L fun H => rRep (.ref l) (.int n) H Q := fun H h => by
  obtain ⟨vs, h1, h2⟩ := t.ls h
  exact w_rep h1 hm.1.1 hm.1.2.1 (by rw [h2.len]; exact hm.1.2.2) fun p np => q hm.2 p _ (h.ls_new np (all2_rep h2 _))
def obu0 (o : α ⊕ β) (k : α → Prop) : Prop := ∃ x, o = .inl x ∧ k x
def obu1 (o : α ⊕ β) (k : β → Prop) : Prop := ∃ x, o = .inr x ∧ k x
theorem obu0_l {x : α} {k : α → Prop} : obu0 (.inl x : α ⊕ β) k = k x := by simp [obu0]
theorem obu1_r {x : β} {k : β → Prop} : obu1 (.inr x : α ⊕ β) k = k x := by simp [obu1]
theorem obu1_l {x : α} {k : β → Prop} : obu1 (.inl x : α ⊕ β) k = False := by simp [obu1]
theorem c_getU0 {o : α ⊕ β} {k : α → Prop} (hm : obu0 o k) (t : Take (vl (kU E F) v o) L R) (q : ∀ w, k w → Ent (vl E v w :: L) φ) : Ent L φ := fun H h => by
  obtain ⟨w, rfl, hk⟩ := hm
  exact q w hk H (h.vl (t.vl h))
theorem c_getU1 {o : α ⊕ β} {k : β → Prop} (hm : obu1 o k) (t : Take (vl (kU E F) v o) L R) (q : ∀ w, k w → Ent (vl F v w :: L) φ) : Ent L φ := fun H h => by
  obtain ⟨w, rfl, hk⟩ := hm
  exact q w hk H (h.vl (t.vl h))
/-! two kinds told apart by their lengths -/
class ElsLen (Es : Els K α) where
  n : Nat
  len : ∀ x, (Es.d x).length = n
instance : ElsLen (kNil (K := K)) := ⟨0, fun _ => rfl⟩
instance {A : El K α} : ElsLen (kC1 A) := ⟨1, fun _ => rfl⟩
instance {A : El K α} {B : Els K β} [l : ElsLen B] : ElsLen (kC A B) := ⟨l.n + 1, fun x => by show (A.d x.1 :: B.d x.2).length = _; rw [List.length_cons, l.len]⟩
theorem eqvAll_len : ∀ {xs ys : List PyData}, xs.length ≠ ys.length → PyData.eqvAll xs ys = false
  | [], [], h => absurd rfl h
  | [], y :: ys, _ => by simp [PyData.eqvAll]
  | x :: xs, [], _ => by simp [PyData.eqvAll]
  | x :: xs, y :: ys, h => by
    simp only [PyData.eqvAll]
    rw [eqvAll_len (xs := xs) (ys := ys) (by simpa using h), Bool.and_false]
class Apart (A : El K α) (B : El K β) : Prop where
  l : ∀ x y, PyData.eqv (A.d x) (B.d y) = false
  r : ∀ x y, PyData.eqv (B.d y) (A.d x) = false
theorem apart_of {A : Els K α} {B : Els K β} [l : ElsLen A] [m : ElsLen B] (h : l.n ≠ m.n) : Apart (kTup A) (kTup B) := ⟨fun x y => by
  show PyData.eqv (.tuple (A.d x)) (.tuple (B.d y)) = false
  rw [PyData.eqv]
  exact eqvAll_len (by rw [l.len, m.len]; exact h), fun x y => by
  show PyData.eqv (.tuple (B.d y)) (.tuple (A.d x)) = false
  rw [PyData.eqv]
  exact eqvAll_len (by rw [l.len, m.len]; exact fun z => h z.symm)⟩
instance [DecidableEq α] [DecidableEq β] {A : El K α} {B : El K β} [D : ElD A] [G : ElD B] [P : Apart A B] : ElD (kU A B) := ⟨max D.n G.n, fun {H v x} h => by
  cases x with
  | inl a => exact D.lay (show A.P H v a from h)
  | inr b => exact G.lay (show B.P H v b from h), fun x => by
  cases x with
  | inl a => have := D.dep a; show (A.d a).depth ≤ _; omega
  | inr b => have := G.dep b; show (B.d b).depth ≤ _; omega, fun x y => by
  cases x with
  | inl a => cases y with
    | inl b => show PyData.eqv (A.d a) (A.d b) = _; rw [D.eqv]; simp
    | inr b => show PyData.eqv (A.d a) (B.d b) = _; rw [P.l]; simp
  | inr a => cases y with
    | inl b => show PyData.eqv (B.d a) (A.d b) = _; rw [P.r]; simp
    | inr b => show PyData.eqv (B.d a) (B.d b) = _; rw [G.eqv]; simp⟩
theorem c_wantMany {C : Addr} {X : XK} {x lo hi : Int} {k : Prop} (hm : grd (lo ≤ x ∧ x ≤ hi ∧ 0 ≤ x) k) (q : k → Ent L (Q .non)) : Ent L fun H => spWantMany K C [.int x, .int lo, .int hi] H Q X := e_wantMany hm.1.2.2 hm.1.1 hm.1.2.1 (q hm.2)
theorem c_wantWord {C : Addr} {X : XK} {x : Int} {k : Prop} (hm : grd (W16 x) k) (q : k → Ent L (Q .non)) : Ent L fun H => spWantWord K C [.int x] H Q X := e_wantWord hm.1 (q hm.2)
theorem c_W1 {X : XK} {ok : Int → Prop} {x : Int} {k : Prop} (hm : grd (ok x) k) (q : k → Ent L (Q .non)) : Ent L fun H => aW1 ok [.int x] H Q X := e_W1 hm.1 (q hm.2)
end
end Toy
namespace Toy
open PySem L2 PySem.Spec PyProof.Rows
/-! ## defs that are run where no repr is under way -/
structure FnG (P : Program) (w : World) (K : PySem.W.Frag) (mg : Str → Option Value) (base : Heap) (CX : CXT) (k : Nat) (f : Addr) (fd : FuncData) (ps : List Str) (sp : Sp) : Prop where
  many : ∀ vs H Q E, sp vs H Q E → vs.length = ps.length
  go : ∀ (A : Around) (out : List Env) (s : Shared) (H : Hp) (ar : Args) (us : List Value) (vs : List V) (Q : VK) (E : XK), A.guards = some [] → Room k A → Env0 P w K mg base A out s H →
    BindsTo s fd ar (ps.zip us) → Vals vs us → sp vs H Q E → codeAny (model P w) A (.call (.ref f) ar) (CR CX out P w H s Q E) s
section
variable {P : Program} {w : World} {K : PySem.W.Frag} {mg : Str → Option Value} {base : Heap} {k : Nat} {f : Addr} {fd : FuncData} {ps : List Str} {sp : Sp}
theorem FnG.of {CX : CXT} (F : FnOk P w K mg base CX k f fd ps sp) : FnG P w K mg base CX k f fd ps sp :=
  ⟨F.len, fun A out s H ar us vs Q E _ hr he hb hv hs => F.run A out s H ar us vs Q E hr he hb hv hs⟩
theorem okG {x qual : Str} {st : Stmt} {N : List Str} (F : Fun K x qual st f fd) (S : FnScope N ps (defScope st)) (many : ∀ vs H Q E, sp vs H Q E → vs.length = ps.length)
    (body : ∀ (cdv : Value) (A : Around) (out : List Env) (s : Shared) (H : Hp) (vs : List V) (Q : VK) (E : XK), A.guards = some [] → Room k (A.deeper (envOfC qual (defScope st) s.heap.objs.size f cdv)) → sp vs H Q E →
      ∃ t, PSs (cxOf (L2.CX P w) P w K mg base N qual (defScope st) f cdv A out s H E) (defBody st) t ∧ t ⟨fun _ H' => Q .non H', Q, fun _ _ => False, fun _ _ => False⟩ (start N vs) H) :
    FnG P w K mg base (L2.CX P w) (k + 1) f fd ps sp := by
  obtain ⟨oc, od, kV, dc, pm, an, cv, ct, sl, rfl, at_, cin⟩ := F.ex
  refine ⟨many, fun A out s H ar us vs Q E hg hr e0 hb r q => ?_⟩
  have size := many _ _ _ _ q
  have KX : K.In s.heap := e0.mod.kin.keeps fun b o e => (e0.bs b o e).1
  have lim : s.heap.NoLimit := e0.mod.nolimit.keeps fun b o e => (e0.bs b o e).1
  have names : ∀ y ∈ ps.zip us, (defScope st).names.lookup y.1 = some .local ∨ ((defScope st).names.lookup y.1 = some .cell ∧ ((cellsFrom (s.heap.objs.size + 1) (defScope st).names []).lookup y.1).isSome = true) := by
    rintro ⟨n, v⟩ hin
    exact (S.par n (List.of_mem_zip hin).1).elim .inl fun z => .inr ⟨z, PySem.W.cellsFrom_some _ _ _ (.inl z)⟩
  refine codeAny_call_function hr.depth (KX _ _ at_) rfl S.co S.gen rfl (PySem.W.codeRec_of KX cin) (hb _ _ _ _ (wpAny_newFunctionEnv_cells S.kind names fun env he s1 x => ?_))
  subst he
  refine ⟨lim.keeps x.toInCall.keep, codeAny_func ?_⟩
  obtain ⟨t, ht, hq⟩ := body cv A out s H vs Q E hg (hr.deeper _) q
  have I := inv_start (CX := L2.CX P w) (E := E) S hr.hd e0 size r x
  refine wpAny_mono (ht.run [] s1 (start N vs) H _ I hq) ?_ fun _ _ z => z
  intro fl s' z
  have fin : ∀ {τ : L2.St} {H' : Hp} {v : V} {u : Value}, Inv (cxOf (L2.CX P w) P w K mg base N qual (defScope st) f cv A out s H E) [] τ H' s' → RelV v u → Q v H' → CE out P w H s Q u s' := fun J rv qv => ⟨_, _, J.os, J.bare, J.base, J.hok, rv, qv⟩
  cases fl with
  | ret u => obtain ⟨v, τ, H', J, rv, qv⟩ := z; exact fin J rv qv
  | next => obtain ⟨τ, H', J, qv⟩ := z; exact fin (v := V.non) (u := Value.none) J rfl qv
  | brk => obtain ⟨_, _, _, qv⟩ := z; exact qv.elim
  | cont => obtain ⟨_, _, _, qv⟩ := z; exact qv.elim
end
section
variable {X : Cx} {CX : CXT} {k : Nat} {f : Addr} {fd : FuncData} {ps : List Str} {sp : Sp} {ds : List Value} {dvs : List V} {E : XK} {x : Str} {p pos : Pos} {e : Expr} {es : List Expr} {t : TA}
theorem run_G {pins : List (Addr × Obj)} {σ : L2.St} {H : Hp} {s : Shared} {Q : VK} {us : List Value} {vs : List V} (F : FnG X.prog X.w X.K X.mg X.base CX k f fd ps sp) (hgd : X.A.guards = some []) (hr : Room k X.A) (hb : Binds X.K fd ps ds) (hd : Vals dvs ds) (hx : Passes CX X E)
    (I : Inv X pins σ H s) (r : Vals vs us) (h : sp (vs ++ dvs) H Q E) : wpAny (model X.prog X.w) X.A (call (.ref f) us) (EP X pins σ Q) X.xe s := by
  have both : Vals (vs ++ dvs) (us ++ ds) := r.append hd
  have many : (us ++ ds).length = ps.length := both.length ▸ F.many _ _ _ _ h
  refine wpAny_call (codeAny_mono (F.go X.A X.stack s H ⟨us, []⟩ (us ++ ds) (vs ++ dvs) Q E hgd hr I.env0 (hb s us I.kIn many) both h) ?_)
  intro fl s' z
  cases fl with
  | error er => exact hx pins σ H s er s' I z
  | ok fl =>
    cases fl with
    | ret u => exact I.after z
    | next => exact z.elim
    | brk => exact z.elim
    | cont => exact z.elim
theorem pe_callG (F : FnG X.prog X.w X.K X.mg X.base CX k f fd ps sp) (hgd : X.A.guards = some []) (hr : Room k X.A) (hg : Gl X x) (hm : X.mg x = some (.ref f)) (hk : PySem.W.keepIn X.K (.ref f) = true) (hb : Binds X.K fd ps ds) (hd : Vals dvs ds) (hx : Passes CX X E) (ha : PA X (e :: es) t)
    (hdb : (x == ("__debug__" : Str)) = false := by decide) (he : starEach (e :: es) X.env = (false, eval e X.env) :: starEach es X.env := by rfl) (hpl : (backTo pos (starEach es X.env)).any (·.1) = false := by rfl) :
    PE X (.Call (.Name x p) (e :: es) [] pos) (tCall sp dvs E t) :=
  ⟨fun pins s σ H Q I h => wpAny_Call_Name_kw (ld_glob I hg hm (PySem.W.callWith_K (h₀ := X.base) I.ok.mod.kin hk (thn (ha.run pos pins s σ H _ I h) fun us s1 ⟨vs, H1, I1, r, q⟩ => ⟨I1.kIn, run_G F hgd hr hb hd hx I1 r q⟩) he hpl) hdb)⟩
theorem pe_call0G (F : FnG X.prog X.w X.K X.mg X.base CX k f fd ps sp) (hgd : X.A.guards = some []) (hr : Room k X.A) (hg : Gl X x) (hm : X.mg x = some (.ref f)) (hk : PySem.W.keepIn X.K (.ref f) = true) (hb : Binds X.K fd ps ds) (hd : Vals dvs ds) (hx : Passes CX X E)
    (hdb : (x == ("__debug__" : Str)) = false := by decide) : PE X (.Call (.Name x p) [] [] pos) (tCall sp dvs E tNil) :=
  ⟨fun pins s σ H Q I h => wpAny_Call_Name_kw (ld_glob I hg hm (PySem.W.callWith_K0 I.kIn hk (run_G (us := []) F hgd hr hb hd hx I .nil h)) hdb)⟩
/-! repr of what stands in the heap -/
structure Shw (d : PyData) : Prop where
  sh : d.showable = true
  dp : d.depth ≤ 60
  nd : d.hasDict = false
  ln : d.shown.length ≤ sizeLine
def rReprC {K : PySem.W.Frag} {α : Type} (C : Ct K α) : List V → Hp → VK → Prop := fun vs H Q => ∃ (a : Addr) (x : α), vs = [.ref a] ∧ C.P H (.ref a) x ∧ Shw (C.d x) ∧ Q (.str (C.d x).shown) H
theorem un_kept {fs : List Addr} {H : Hp} {h h' : Heap} (k : ∀ b o, h.get? b = some o → h'.get? b = some o) : Un fs [] H H h h' :=
  ⟨fun b o e _ _ _ => k b o e, fun b o e _ _ _ => ⟨o.slots, k b o e⟩, fun _ _ _ n _ => n, fun b o e _ => ⟨o, k b o e⟩, fun _ _ e => e, fun _ _ _ e => e, fun b ps e => ⟨#[], by simpa using e⟩⟩
theorem call_reprC {K : PySem.W.Frag} {α : Type} (C : Ct K α) (hgd : X.A.guards = some []) (hu : X.A.units + 64 < cLine) (hK : X.K = K := by rfl) : CallR X (.builtin "repr") (rReprC C) := by
  subst hK
  intro pins s σ H xs us Q I r h
  obtain ⟨a, x, rfl, hp, sh, q⟩ := h
  obtain ⟨u, rfl, rx⟩ := vals1 r
  obtain rfl : u = .ref a := rx
  obtain ⟨as, rd⟩ := Dp.reads I _ _ _ (C.dp hp) rfl
  exact PySem.repr_of_reads' rd sh.sh (PyData.noDict_hsm sh.nd) hgd (by have := sh.dp; omega) (fun b o h => h) (fun h' u tk hk => ⟨.str _, H, I.un (un_kept hk) (I.hok.kept hk), ⟨_, rfl⟩, q⟩) sh.ln
/-! a list that is never changed again: seen as locked -/
theorem un_frz {fs : List Addr} {H : Hp} {h : Heap} {p : Addr} {xs : List V} {o : Obj} (e : H p = some (.lst xs)) : Un fs [] H (upd H p (.frz o (.lst xs))) h h :=
  ⟨fun b o e _ _ _ => e, fun b o e _ _ _ => ⟨o.slots, e⟩, fun b _ _ n _ => by rw [upd_ne fun z => by rw [z, e] at n; cases n]; exact n, fun b o e _ => ⟨o, e⟩, fun b ys z => by rw [upd_ne fun y => by rw [y, e] at z; cases z]; exact z,
   fun b o u z => by rw [upd_ne fun y => by rw [y, e] at z; cases z]; exact z, fun b ps z => ⟨#[], by rw [upd_ne fun y => by rw [y, e] at z; cases z]; simpa using z⟩⟩
theorem Inv.freeze {pins : List (Addr × Obj)} {σ : L2.St} {H : Hp} {s : Shared} {p : Addr} {xs : List V} (I : Inv X pins σ H s) (e : H p = some (.lst xs)) : ∃ o, Inv X pins σ (upd H p (.frz o (.lst xs))) s := by
  obtain ⟨z, its, n, r, e2⟩ := I.hok p _ e
  refine ⟨_, I.un (h' := s.heap) (t' := s.toks) (un_frz (o := { cls := .type "list", data := .seq its.toArray n }) e) fun b u q => ?_⟩
  by_cases hb : b = p
  · subst hb
    rw [upd_same] at q
    cases q
    exact ⟨e2, z, its, n, r, e2⟩
  · rw [upd_ne hb] at q
    refine (I.hok b u q).stay (fun _ _ _ k => k) (fun c k => ?_) fun c ys k => ?_
    · rw [upd_ne fun y => by rw [y, e] at k; cases k]; exact k
    · rw [upd_ne fun y => by rw [y, e] at k; cases k]; exact k
def tFrz (t : TE) : TE := fun σ H Q => t σ H fun v H1 => ∃ p xs, v = .ref p ∧ H1 p = some (.lst xs) ∧ ∀ o, Q v (upd H1 p (.frz o (.lst xs)))
theorem pe_frz {t : TE} {e : Expr} (h : PE X e t) : PE X e (tFrz t) := ⟨fun pins s σ H Q I q => thn (h.run pins s σ H _ I q) fun u s' ⟨v, H', I', r, p, xs, e1, e2, q'⟩ => by
  obtain ⟨o, J⟩ := Inv.freeze I' e2
  exact ⟨v, _, J, r, q' o⟩⟩
end
section
variable {K : PySem.W.Frag} {α β : Type} {L R R' : List HA} {σ : L2.St} {Q : VK} {v : V} {a p l : Addr} {us : List V} {H : Hp} {E : El K α} {te : TE}
/-- a list that is never changed -/
def kFz (A : El K α) : El K (List α) := ⟨fun H v x => ∃ a o us, v = .ref a ∧ H a = some (.frz o (.lst us)) ∧ All2 (A.P H) us x, fun ⟨a, o, us, e, h, z⟩ k => ⟨a, o, us, e, k a _ h (.inr rfl), z.imp fun _ _ y => A.st y k⟩, fun x => .list (x.map A.d), fun ⟨a, o, us, e, h, z⟩ => by
  subst e
  exact .lst (.inl (.inr ⟨o, h⟩)) (dpAll_of (z.imp fun _ _ y => A.dp y))⟩
instance [DecidableEq α] {A : El K α} [D : ElD A] : ElD (kFz A) := ⟨D.n + 1, fun {H v x} h => by show (PyData.list (x.map A.d)).canLay0 = true; rw [PyData.canLay0]; obtain ⟨t, _, us, _, _, h⟩ := h; exact D.layAll h, fun x => by
  have := D.depAll x
  show (PyData.list (x.map A.d)).depth ≤ _
  simp only [PyData.depth]; omega, fun x y => by
  show PyData.eqv (.list (x.map A.d)) (.list (y.map A.d)) = _
  rw [PyData.eqv]; exact D.eqvAll x y⟩
instance {A : El K α} : ElN (kFz A) := ⟨fun x => by show PyData.eqv .none (.list (x.map A.d)) = false ∧ PyData.eqv (.list (x.map A.d)) .none = false; constructor <;> simp [PyData.eqv], fun H v x h z => by obtain ⟨t, _, us, e, _⟩ := h; rw [e] at z; cases z⟩
theorem Holds.frz {xs : List α} (h : Holds (ls E l xs :: R) H) : ∃ vs, H l = some (.lst vs) ∧ ∀ o, Holds (Toy.vl (kFz E) (.ref l) xs :: R) (L2.upd H l (.frz o (.lst vs))) := by
  obtain ⟨vs, h1, h2⟩ := h.ls_op
  refine ⟨vs, h1.pt_get, fun o => ?_⟩
  obtain ⟨S, S1, S2, ⟨e, _, s⟩, h4, hd, hs⟩ := h1
  have kp : ∀ b ob, H b = some ob → b ≠ l → L2.upd H l (.frz o (.lst vs)) b = some ob := fun b ob e n => by rw [upd_ne n]; exact e
  have z : Holds R (L2.upd H l (.frz o (.lst vs))) := ⟨S2, h4.st fun b ob e2 q => kp b ob e2 (by
    rintro rfl
    rcases q with q | q
    · exact hd b ((s b).mpr rfl) q
    · rw [e] at e2; cases e2; cases q)⟩
  refine Holds.vl z ⟨l, o, vs, rfl, upd_same, h2.imp fun v x y => E.st y fun b ob e2 q => kp b ob e2 (by
    rintro rfl
    rcases q with q | q
    · exact q.elim
    · rw [e] at e2; cases e2; cases q)⟩
def kFrz (Q : VK) (v : V) (H1 : Hp) : Prop := ∃ p xs, v = .ref p ∧ H1 p = some (.lst xs) ∧ ∀ o, Q v (upd H1 p (.frz o (.lst xs)))
theorem e_frz0 (q : Ent L fun H => te σ H (kFrz Q)) : Ent L fun H => tFrz te σ H Q := q
theorem c_frz {xs : List α} (E : El K α) (t : Take (ls E l xs) L R) (q : Ent (vl (kFz E) (.ref l) xs :: R) (Q (.ref l))) : Ent L fun H => kFrz Q (.ref l) H := fun H h => by
  obtain ⟨vs, h1, h2⟩ := Holds.frz (t.to h)
  exact ⟨l, vs, rfl, h1, fun o => q _ (h2 o)⟩
theorem e_repr {C : Ct K α} {x : α} (h : IsC C L (.ref a) x) (sh : Shw (C.d x)) (q : Ent L (Q (.str (C.d x).shown))) : Ent L fun H => rReprC C [.ref a] H Q := fun H z => ⟨a, x, rfl, h H z, sh, q H z⟩
theorem c_repr {C : Ct K α} {x : α} {k : Prop} (hm : grd (Shw (C.d x)) k) (h : IsC C L (.ref a) x) (q : k → Ent L (Q (.str (C.d x).shown))) : Ent L fun H => rReprC C [.ref a] H Q := e_repr h hm.1 (q hm.2)
end
/-! the call of the law -/
section
variable {P : Program} {w : World} {K : PySem.W.Frag} {mg mb : Str → Option Value} {k : Nat} {fa a : Addr} {fd : FuncData} {x : Str} {sp : Sp} {s : Shared} {us : List Value} {ns : List Int}
theorem law_callG {CX : CXT} (KX : K.In s.heap) (hns : s.heap.Ns mainGlobals mg) (hb : s.heap.Ns builtinsNs mb) (hbb : ∀ x : Str, x ≠ "__name__" → mb x = bootBuiltins x) (hlim : s.heap.NoLimit) (hg : s.gens = #[])
    (ha : s.heap.get? a = some { cls := .type "list", data := .seq us.toArray }) (hi : IntsAre us ns) (hl : ns.length ≤ sizeLine) (hr : Room k callerA)
    (F : ∀ base : Heap, K.In base → base.Ns mainGlobals mg → FnG P w K mg base CX k fa fd [x] sp) (hbind : ∀ (s : Shared) (u : Value), BindsTo s fd ⟨[u], []⟩ [(x, u)])
    (hsp : ∀ H : Hp, Only H → SqL K H a (ns.map V.int) → sp [.ref a] H (fun v _ => v = .bl true) fun _ _ _ => False) (hCX : ∀ H e s', CX [] H s (fun _ _ _ => False) e s' → False) :
    codeAny (model P w) callerA (.call (.ref fa) ⟨[.ref a], []⟩) (fun r s' => r = .ok (.ret (.bool true)) ∧ OldK s.heap s'.heap ∧ s'.os = s.os ∧ AllBare s'.gens) s := by
  have rv := vals_ints hi
  have many := hi.length
  have main : ∀ H : Hp, Only H → SqL K H a (ns.map V.int) → HOk P w H s.heap → (∀ b, H b ≠ none → b = a ∧ K.lookup a = none) → codeAny (model P w) callerA (.call (.ref fa) ⟨[.ref a], []⟩) (fun r s' => r = .ok (.ret (.bool true)) ∧ OldK s.heap s'.heap ∧ s'.os = s.os ∧ AllBare s'.gens) s := by
    intro H only sq ok at_
    have under : ∀ {b : Addr} {o : Obj}, s.heap.get? b = some o → H b = none → (hidT s.heap H).get? b = some o := fun e n => hidT_get e n
    have space : ∀ {b : Addr} {m : Str → Option Value}, s.heap.Ns b m → (hidT s.heap H).Ns b m := by
      rintro b m ⟨o, es, ep, e, d, r⟩
      refine ⟨o, es, ep, under e (Classical.byContradiction fun q => ?_), d, r⟩
      obtain ⟨rfl, _⟩ := at_ b q
      rw [ha] at e
      cases e
      cases (show Data.seq us.toArray _ = Data.dict es ep from d)
    have inn : K.In (hidT s.heap H) := fun b o e => under (KX b o e) (Classical.byContradiction fun q => by
      obtain ⟨rfl, n⟩ := at_ b q
      rw [n] at e
      cases e)
    have limit : (hidT s.heap H).NoLimit := by
      obtain ⟨m, n1, n2⟩ := hlim
      exact ⟨m, space n1, n2⟩
    have e0 : Env0 P w K mg (hidT s.heap H) callerA [] s H := {
      frames := rfl, mod := ⟨inn, space hns, ⟨mb, space hb, hbb⟩, limit⟩, bs := fun b o e => of_hidT e, bsz := Nat.le_of_eq (hidT_size _ _), funs := trivial,
      frf := fun b z => (List.not_mem_nil (show b ∈ ([] : List Addr) from z)).elim, hok := ok, bare := .of_eq hg }
    have run := (F _ inn (space hns)).go callerA [] s H ⟨[.ref a], []⟩ [.ref a] [.ref a] _ _ rfl hr e0 (hbind s (.ref a)) (.cons rfl .nil) (hsp H only sq)
    refine codeAny_mono run fun r s' z => ?_
    cases r with
    | error e => exact (hCX H e s' z).elim
    | ok fl =>
      cases fl with
      | next => exact z.elim
      | brk => exact z.elim
      | cont => exact z.elim
      | ret u =>
        obtain ⟨v, H', os, bare, un, ok', ru, qv⟩ := z
        have qv : v = .bl true := qv
        subst qv
        obtain rfl : u = Value.bool true := ru
        refine ⟨rfl, OldK.of_keep fun b o e => ?_, os, bare⟩
        rcases only b with n | ⟨ob, xs, n⟩
        · exact un.keep b o e n (fun z => (List.not_mem_nil (show b ∈ ([] : List Addr) from z)).elim) (by simp)
        · obtain ⟨e1, _⟩ := ok b _ n
          obtain ⟨e2, _⟩ := ok' b _ (un.frzs b ob _ n)
          rw [e] at e1
          cases e1
          exact e2
  have none_ok : ∀ {b : Addr} {u : HO}, (none : Option HO) = some u → False := fun z => by cases z
  cases hk : K.lookup a with
  | some o =>
    have e := KX a o hk
    rw [ha] at e
    cases e
    exact main (fun _ => none) (fun _ => .inl rfl) (.inr ⟨_, us.toArray, _, hk, rfl, rfl, rfl, by rw [List.size_toArray, many]; exact hl, by simpa using rv⟩) (fun b u z => (none_ok (b := b) z).elim) fun b z => (z rfl).elim
  | none =>
    let ob : Obj := { cls := .type "list", data := .seq us.toArray }
    have pos : ∀ b, b = a → (if b = a then some (HO.frz ob (.lst (ns.map V.int))) else none) = some (HO.frz ob (.lst (ns.map V.int))) := fun b e => if_pos e
    refine main (fun b => if b = a then some (.frz ob (.lst (ns.map V.int))) else none) (fun b => ?_) (.inl (.inr ⟨ob, pos a rfl⟩)) (fun b u z => ?_) fun b z => ⟨Classical.byContradiction fun n => z (if_neg n), hk⟩
    · rcases Classical.em (b = a) with e | e
      · exact .inr ⟨_, _, pos b e⟩
      · exact .inl (if_neg e)
    · rcases Classical.em (b = a) with e | e
      · cases (pos b e).symm.trans z
        subst e
        exact ⟨ha, by rw [List.length_map]; exact hl, us, _, rv, ha⟩
      · exact (none_ok (b := b) ((if_neg e).symm.trans z)).elim
theorem walk_ofG {l : PySem.W.OpenLaw} {n k : Nat} {q : Program} {loose : List Str} {XP : (Str → Option Value) → Heap → Prop} {YP : World → Heap → Prop} {d : DefRec} {K : Params → PySem.W.Frag} {CX : World → CXT} {sp : World → Sp} {x : Str}
    (hn : l.most = some n) (hn2 : n ≤ sizeLine) (hdf : d.params.defaults = []) (hr : Room k callerA) (hY : ∀ (w : World) (h : Heap), YP w h → (K w.params).In h)
    (F : ∀ (w : World) (mg : Str → Option Value) (fa : Addr) (h : Heap), (K w.params).In h → h.Ns mainGlobals mg → mg d.name = some (.ref fa) →
      ∃ fd : FuncData, (∀ (s : Shared) (u : Value), BindsTo s fd ⟨[u], []⟩ [(x, u)]) ∧ ∀ base : Heap, (K w.params).In base → base.Ns mainGlobals mg → FnG l.prog w (K w.params) mg base (CX w) k fa fd [x] (sp w))
    (hsp : ∀ (w : World) (H : Hp) (a : Addr) (ns : List Int), ns.length ≤ n → Only H → SqL (K w.params) H a (ns.map V.int) → sp w [.ref a] H (fun v _ => v = .bl true) fun _ _ _ => False)
    (hCX : ∀ (w : World) (H : Hp) (s : Shared) (e : Value) (s' : Shared), CX w [] H s (fun _ _ _ => False) e s' → False) : PySem.W.WalkO q loose XP YP l.row.toRowW d [] (fun f vs => PySem.call f vs) := by
  refine Att.attach_call hn hdf fun w t s mg mb fa o pm cd doc a us ns G Y ho hd hcd hmg hobj hints hlen hg => ?_
  obtain ⟨fd, hb, hF⟩ := F w mg fa _ (hY w _ Y) G.T.g hmg
  exact law_callG (hY w _ Y) G.T.g G.T.b G.T.builtins G.T.nolimit hg hobj hints (Nat.le_trans hlen hn2) hr hF hb (fun H hO hS => hsp w H a ns hlen hO hS) fun H e s' => hCX w H s e s'
end
/-! ### a list or a tuple, as the callers hold it -/
theorem ty_sqL {K : PySem.W.Frag} {H : Hp} {a : Addr} {vs : List V} (h : SqL K H a vs) : TyX K H (.ref a) (.type "list") := by
  rcases h with (h | ⟨o, h⟩) | ⟨o, _, _, h, c, _⟩
  · exact .base (.lst h)
  · exact .base (.frz h)
  · exact .kList h c
theorem ty_sqT {K : PySem.W.Frag} {H : Hp} {a : Addr} {vs : List V} (h : SqT K H a vs) : TyX K H (.ref a) (.type "tuple") := by
  rcases h with (h | ⟨o, h⟩) | ⟨o, _, _, h, c, _⟩
  · exact .base (.tup h)
  · exact .fTuple h
  · exact .kTuple h c
section
variable {K : PySem.W.Frag} {α β : Type} {L R R' F F' : List HA} {σ : L2.St} {Q : VK} {v : V} {a p l : Addr} {us : List V} {H : Hp} {E : El K α} {te ta : TE} {xs : List α}
inductive SqAt (E : El K α) (F : List HA) : V → List α → Prop
  | lst {a : Addr} {xs : List α} : (∀ H, Holds F H → ∃ vs, SqL K H a vs ∧ All2 (E.P H) vs xs) → SqAt E F (.ref a) xs
  | tup {v : V} {xs : List α} : (∀ H, Holds F H → (kT E).P H v xs) → SqAt E F v xs
theorem SqAt.sub (s : Sub L F) (h : SqAt E F v xs) : SqAt E L v xs := by
  cases h with
  | lst h => exact .lst fun H z => h H (s.to z)
  | tup h => exact .tup fun H z => h H (s.to z)
theorem sqAt_ls (t : Take (ls E l xs) L R) : SqAt E L (.ref l) xs := .lst fun H h => by
  obtain ⟨vs, h1, h2⟩ := t.ls h
  exact ⟨vs, SqL.of h1, h2⟩
theorem sqAt_kT (t : Take (vl (kT E) v xs) L R) : SqAt E L v xs := .tup fun H h => t.vl h
theorem c_lenSq (h : SqAt E L v xs) (q : Ent L (Q (.int xs.length))) : Ent L fun H => rLenK K [v] H Q := fun H z => by
  cases h with
  | lst h => obtain ⟨vs, h1, h2⟩ := h H z; exact ⟨_, vs, rfl, .inl h1, by rw [h2.len]; exact q H z⟩
  | tup h => obtain ⟨a, vs, rfl, h1, h2⟩ := h H z; exact ⟨_, vs, rfl, .inr h1, by rw [h2.len]; exact q H z⟩
theorem c_listSq (h : SqAt E L v xs) (q : ∀ p, Ent (ls E p xs :: L) (Q (.ref p))) : Ent L fun H => rListK K [v] H Q := fun H z => by
  cases h with
  | lst h => obtain ⟨vs, h1, h2⟩ := h H z; exact ⟨_, vs, rfl, .inl h1, fun p np => q p _ (z.ls_new np h2)⟩
  | tup h => obtain ⟨a, vs, rfl, h1, h2⟩ := h H z; exact ⟨_, vs, rfl, .inr h1, fun p np => q p _ (z.ls_new np h2)⟩
def iSeq (K : PySem.W.Frag) (te : TE) : TI := fun σ H R => iList K te σ H R ∨ iTup K te σ H R
theorem pi_seq {X : Cx} {tg l : Expr} {tl : TE} (hl : PE X l tl) (hK : X.K = K := by rfl) : PI X tg l (iSeq K tl) := by
  subst hK
  exact ⟨fun pins s σ H R I h => h.elim ((pi_list hl).run pins s σ H R I) ((pi_tup hl).run pins s σ H R I)⟩
/-- what is asked of the walked thing, once its value is known -/
def kLcS (K : PySem.W.Frag) (v : V) (g : TG) (tt : TT) (te : TE) (vs : List Nat) : TE := tLc (iSeq K (tC v)) g tt te vs
theorem e_lcSv {i : Nat} {g : TG} {tt : TT} {vs : List Nat} (h : σ[i]? = some (some v)) (q : Ent L fun H => kLcS K v g tt te vs σ H Q) : Ent L fun H => tLc (iSeq K (tVar i)) g tt te vs σ H Q := fun H z => by
  rcases q H z with h1 | h1
  · exact .inl ⟨v, h, h1⟩
  · exact .inr ⟨v, h, h1⟩
theorem walk_sq (he : ∀ H, Holds L H → ∃ vs, SqL K H a vs ∧ All2 (E.P H) vs xs) : Walk (Itl K a) xs.length (fun H => ∃ vs, SqL K H a vs ∧ All2 (E.P H) vs xs) (fun i H x H' => H' = H ∧ ∃ e, xs[i]? = some e ∧ E.P H x e) :=
  ⟨fun i H hi ⟨vs, h1, h2⟩ => by
    obtain ⟨v, hv, _⟩ := h2.getR (List.getElem?_eq_getElem hi)
    exact ⟨vs, v, h1, hv⟩, fun H ⟨vs, h1, h2⟩ => ⟨vs, h1, Nat.le_of_eq h2.len⟩, fun i H x H' hi ⟨vs, h1, h2⟩ ⟨e, y⟩ => ⟨e, h2.get (y vs h1)⟩⟩
theorem walk_sqT : Walk (Itt K a) xs.length (fun H => ∃ vs, SqT K H a vs ∧ All2 (E.P H) vs xs) (fun i H x H' => H' = H ∧ ∃ e, xs[i]? = some e ∧ E.P H x e) :=
  ⟨fun i H hi ⟨vs, h1, h2⟩ => by
    obtain ⟨v, hv, _⟩ := h2.getR (List.getElem?_eq_getElem hi)
    exact ⟨vs, v, h1, hv⟩, fun H ⟨vs, h1, h2⟩ => ⟨vs, h1, Nat.le_of_eq h2.len⟩, fun i H x H' hi ⟨vs, h1, h2⟩ ⟨e, y⟩ => ⟨e, h2.get (y vs h1)⟩⟩
theorem lcSq_core {J : It} {G : Hp → Prop} {bd : α → (Option β → Prop) → Prop} {k : List β → Prop} {g : TG} {tt : TT} {vs : List Nat} (E' : El K β) (w : Walk J xs.length G (fun i H x H' => H' = H ∧ ∃ e, xs[i]? = some e ∧ E.P H x e)) (hG : ∀ H, Holds L H → G H) (hm : grd (xs.length ≤ 100000) (lcL xs [] bd k))
    (step : ∀ x (nxt : Option β → Prop), bd x nxt → ∀ v D ys (r : VK) (s : Hp → Prop), (∀ v' y, nxt (some y) → Ent (vl E' v' y :: ls E' D ys :: L) (r v')) → (nxt none → Ent (ls E' D ys :: L) s) → Ent (vl E v x :: ls E' D ys :: L) fun H => g v (wipe σ vs) H fun σ2 H2 => wipe σ2 vs = wipe σ vs ∧ tt σ2 H2 fun b H3 => if b = true then te σ2 H3 r else s H3)
    (q : ∀ ys, k ys → ∀ D, Ent (ls E' D ys :: L) (Q (.ref D))) (h : Holds L H) : ∀ D, H D = none → ∃ W : Nat → Nat → Hp → Prop, (∃ m, W 0 m (upd H D (.lst []))) ∧ ∀ i m H, W i m H → (J.stop i H ∧ Q (.ref D) H) ∨ (J.go i H ∧ ∃ Nx : Hp → Prop, (∀ H', Nx H' → ∃ m', m' < m ∧ W (i + 1) m' H') ∧ ∀ x H', J.yld i H x H' → g x (wipe σ vs) H' fun σ2 H2 => wipe σ2 vs = wipe σ vs ∧ tt σ2 H2 fun b H3 =>
      if b = true then te σ2 H3 fun y H4 => ∃ acc, H4 D = some (.lst acc) ∧ acc.length < sizeLine ∧ Nx (upd H4 D (.lst (acc ++ [y]))) else Nx H3) := fun D nD => by
  obtain ⟨hz, hm⟩ := hm
  refine lc_it w (fun i H' => ∃ ys, lcL (xs.drop i) ys bd k ∧ i ≤ xs.length ∧ ys.length ≤ i ∧ Holds (ls E' D ys :: L) H') ⟨[], hm, Nat.zero_le _, Nat.le_refl _, h.ls_new nD .nil⟩ (fun i H' _ ⟨ys, _, _, _, p⟩ => hG H' (Sub.to (Sub.drop Sub.refl) p)) (fun i v H' H'' hi ⟨ys, hf, _, hy, p⟩ ⟨e, x, hx, hp⟩ => ?_) (fun H' ⟨ys, hf, _, _, p⟩ => q ys (by rw [List.drop_length] at hf; exact hf) D H' p)
  subst e
  have ed : xs.drop i = x :: xs.drop (i + 1) := by
    rw [List.drop_eq_getElem_cons hi]
    congr 1
    exact Option.some.inj ((List.getElem?_eq_getElem hi).symm.trans hx)
  rw [ed, lcL] at hf
  refine step x _ hf v D ys _ _ (fun v' y hy' H4 z => ?_) (fun hn H3 z => ?_) _ (p.vl hp)
  · obtain ⟨ac, z1, z2⟩ := Holds.ls_op (Sub.to (Sub.drop Sub.refl) z)
    have z3 : E'.P H4 v' y := Take.vl take_here z
    refine ⟨ac, z1.pt_get, ?_, ys ++ [y], hy', hi, by simp; omega, Holds.ls_upd (Sub.to (Sub.drop Sub.refl) z) (z2.app (.one z3))⟩
    rw [z2.len]
    exact Nat.lt_of_le_of_lt (by omega : ys.length ≤ 100000) (by decide : 100000 < sizeLine)
  · exact ⟨ys, by simpa using hn, hi, by omega, z⟩
theorem c_lcSq {bd : α → (Option β → Prop) → Prop} {k : List β → Prop} {g : TG} {tt : TT} {vs : List Nat} (E' : El K β) (hm : grd (xs.length ≤ 100000) (lcL xs [] bd k)) (t : SqAt E L v xs)
    (step : ∀ x (nxt : Option β → Prop), bd x nxt → ∀ v D ys (r : VK) (s : Hp → Prop), (∀ v' y, nxt (some y) → Ent (vl E' v' y :: ls E' D ys :: L) (r v')) → (nxt none → Ent (ls E' D ys :: L) s) → Ent (vl E v x :: ls E' D ys :: L) fun H => g v (wipe σ vs) H fun σ2 H2 => wipe σ2 vs = wipe σ vs ∧ tt σ2 H2 fun b H3 => if b = true then te σ2 H3 r else s H3)
    (q : ∀ ys, k ys → ∀ D, Ent (ls E' D ys :: L) (Q (.ref D))) : Ent L fun H => kLcS K v g tt te vs σ H Q := fun H h => by
  cases t with
  | lst t =>
    obtain ⟨ws, h1, _⟩ := t H h
    exact .inl ⟨_, rfl, ⟨ws, h1⟩, lcSq_core E' (walk_sq t) t hm step q h⟩
  | tup t =>
    obtain ⟨a, ws, rfl, h1, _⟩ := t H h
    refine .inr ⟨_, rfl, ⟨ws, h1⟩, lcSq_core E' walk_sqT (fun H h => ?_) hm step q h⟩
    obtain ⟨b, us, e, z1, z2⟩ := t H h
    cases e
    exact ⟨us, z1, z2⟩
theorem c_isList {X : XK} (h : SqAt E L v xs) (q : Ent L (Q (.bl true))) : Ent L fun H => spList K [v] H Q X := fun H z => by
  cases h with
  | lst h =>
    obtain ⟨vs, h1, _⟩ := h H z
    exact ⟨_, .type "list", true, rfl, ty_sqL h1, kitAny_cons (b := true) (kit_ty (by decide +kernel)) (fun z => by cases z) (fun _ => rfl), fun H' s => q H' (z.same s)⟩
  | tup h =>
    obtain ⟨a, vs, rfl, h1, _⟩ := h H z
    exact ⟨_, .type "tuple", true, rfl, ty_sqT h1, kitAny_cons (b := false) (kit_ty (by decide +kernel)) (fun _ => kitAny_cons (b := true) (kit_ty (by decide +kernel)) (fun z => by cases z) (fun _ => rfl)) (fun z => by cases z), fun H' s => q H' (z.same s)⟩
theorem c_all {bs : List Bool} (t : Take (ls (kB (K := K)) l bs) L R) (q : Ent L (Q (.bl (bs.all id)))) : Ent L fun H => rAll K [.ref l] H Q := fun H h => by
  obtain ⟨vs, h1, h2⟩ := t.ls h
  have e : vs = bs.map V.bl := by
    clear h1 q t
    induction h2 with
    | nil => rfl
    | cons h _ ih => rw [List.map_cons, ← ih]; exact congrArg (· :: _) h
  subst e
  exact ⟨l, bs, rfl, SqL.of h1, q H h⟩
end
/-! repr of plain values, texts compared -/
class ElR {K : PySem.W.Frag} {α : Type} (E : El K α) : Prop where
  r : ∀ H v x, E.P H v x → (E.d x).showable = true → (E.d x).shown.length ≤ sizeLine → okS v ∧ shV v = (E.d x).shown
section
variable {K : PySem.W.Frag} {α : Type} {L R : List HA} {Q : VK} {v : V}
instance : ElR (kI (K := K)) := ⟨fun H v x h s _ => by
  have h : v = .int x := h
  subst h
  exact ⟨by show x.natAbs.log2 < 1920; simpa [kI, PyData.showable] using s, by simp [kI, shV, PyData.shown]⟩⟩
instance : ElR (kB (K := K)) := ⟨fun H v x h s _ => by
  have h : v = .bl x := h
  subst h
  exact ⟨trivial, by simp [kB, shV, PyData.shown]⟩⟩
instance : ElR (kN (K := K)) := ⟨fun H v x h s _ => by
  have h : v = .non := h
  subst h
  exact ⟨trivial, by simp [kN, shV, PyData.shown]⟩⟩
instance {E : El K α} [r : ElR E] : ElR (kO E) := ⟨fun H v x h s l => by
  cases x with
  | none =>
    have h : v = .non := h
    subst h
    exact ⟨trivial, by simp [kO, optD, shV, PyData.shown]⟩
  | some y => exact r.r H v y h s l⟩
theorem c_reprS {E : El K α} {x : α} {D : PyData} {k : Prop} (hm : grd (Shw D) k) (h : Is E L v x) (e : E.d x = D) (n : ElR E) (q : k → Ent L (Q (.str D.shown))) : Ent L fun H => rReprS [v] H Q := fun H z => by
  subst e
  obtain ⟨h1, h2⟩ := n.r H v x (h H z) hm.1.sh hm.1.ln
  exact ⟨v, rfl, h1, by rw [h2]; exact q hm.2 H z⟩
theorem c_reprD {a : Addr} {C : Ct K α} {x : α} {D : PyData} {k : Prop} (hm : grd (Shw D) k) (h : IsC C L (.ref a) x) (e : C.d x = D) (q : k → Ent L (Q (.str D.shown))) : Ent L fun H => rReprC C [.ref a] H Q := by
  subst e
  exact c_repr hm h q
theorem dec_vstr (a b : Str) : decide (V.str a = V.str b) = decide (a = b) := by
  by_cases h : a = b
  · subst h; simp
  · rw [decide_eq_false h, decide_eq_false fun z => h (V.str.inj z)]
theorem e_eqSS {a b : Str} (q : Ent L fun H => Q (.bl (decide (a = b))) H) : Ent L fun H => rEq (.str a) (.str b) H Q := fun H k => ⟨rfl, by rw [dec_vstr]; exact q H k⟩
theorem e_neSS {a b : Str} (q : Ent L fun H => Q (.bl (!decide (a = b))) H) : Ent L fun H => rNe (.str a) (.str b) H Q := fun H k => ⟨rfl, by rw [dec_vstr]; exact q H k⟩
theorem dec_vbl (a b : Bool) : decide (V.bl a = V.bl b) = decide (a = b) := by cases a <;> cases b <;> simp
theorem e_eqBB {a b : Bool} (q : Ent L fun H => Q (.bl (decide (a = b))) H) : Ent L fun H => rEq (.bl a) (.bl b) H Q := fun H k => ⟨rfl, by rw [dec_vbl]; exact q H k⟩
theorem e_neBB {a b : Bool} (q : Ent L fun H => Q (.bl (!decide (a = b))) H) : Ent L fun H => rNe (.bl a) (.bl b) H Q := fun H k => ⟨rfl, by rw [dec_vbl]; exact q H k⟩
theorem gdeep {A : Around} {env : Env} (h : A.guards = some []) : (A.deeper env).guards = some [] := by first | exact h | simpa [Around.deeper] using h
theorem e_shrC {C : Int → Int → Prop} {g : Int → Int → V} {i j : Int} (h : C i j) (q : Ent L fun H => Q (g i j) H) : Ent L fun H => rI C g (.int i) (.int j) H Q := e_I h q
end
/-! ## how long a repr may be -/
structure Szd (w n : Nat) (d : PyData) : Prop where
  sh : d.showable = true
  nd : d.hasDict = false
  lv : d.leavesShort 13 = true
  we : d.weight ≤ w
  dp : d.depth ≤ n
structure SzdA (w n : Nat) (ds : List PyData) : Prop where
  sh : PyData.showableAll ds = true
  nd : PyData.hasDictAll ds = false
  lv : PyData.leavesShortAll 13 ds = true
  we : PyData.weightAll ds ≤ w
  dp : PyData.depthAll ds ≤ n
theorem Szd.mono {w n w' n' : Nat} {d : PyData} (h : Szd w n d) (hw : w ≤ w' := by omega) (hn : n ≤ n' := by omega) : Szd w' n' d := ⟨h.sh, h.nd, h.lv, Nat.le_trans h.we hw, Nat.le_trans h.dp hn⟩
theorem szdA_of {w n : Nat} : ∀ ds : List PyData, (∀ d ∈ ds, Szd w n d) → SzdA ((w + 1) * ds.length) n ds
  | [], _ => ⟨rfl, rfl, rfl, Nat.zero_le _, Nat.zero_le _⟩
  | d :: ds, h => by
    have a := h d List.mem_cons_self
    have b := szdA_of ds fun x hx => h x (List.mem_cons_of_mem _ hx)
    refine ⟨by simp [PyData.showableAll, a.sh, b.sh], by simp [PyData.hasDictAll, a.nd, b.nd], by simp [PyData.leavesShortAll, a.lv, b.lv], ?_, ?_⟩
    · have h1 := a.we
      have h2 := b.we
      simp only [PyData.weightAll, List.length_cons, Nat.mul_add]
      omega
    · have h1 := a.dp
      have h2 := b.dp
      simp only [PyData.depthAll]
      omega
theorem szd_list {w n : Nat} {ds : List PyData} (h : ∀ d ∈ ds, Szd w n d) : Szd ((w + 1) * ds.length) (n + 1) (.list ds) := by
  have b := szdA_of ds h
  exact ⟨by rw [PyData.showable]; exact b.sh, by rw [PyData.hasDict]; exact b.nd, by rw [PyData.leavesShort]; exact b.lv, by rw [PyData.weight]; exact b.we, by rw [PyData.depth]; exact Nat.add_le_add_right b.dp 1⟩
theorem szd_tuple {w n : Nat} {ds : List PyData} (h : ∀ d ∈ ds, Szd w n d) : Szd ((w + 1) * ds.length) (n + 1) (.tuple ds) := by
  have b := szdA_of ds h
  exact ⟨by rw [PyData.showable]; exact b.sh, by rw [PyData.hasDict]; exact b.nd, by rw [PyData.leavesShort]; exact b.lv, by rw [PyData.weight]; exact b.we, by rw [PyData.depth]; exact Nat.add_le_add_right b.dp 1⟩
theorem szd_int {i : Int} (h : i.natAbs < 10 ^ 12) : Szd 41 0 (.int i) := by
  have l : i.natAbs.log2 < 40 := by
    by_cases z : i.natAbs = 0
    · rw [z]; decide
    · rw [Nat.log2_lt z]
      exact Nat.lt_of_lt_of_le h (by decide)
  refine ⟨by rw [PyData.showable]; exact decide_eq_true (by omega), rfl, by rw [PyData.leavesShort]; exact decide_eq_true (PyData.shown_int_le h), ?_, by simp [PyData.depth]⟩
  rw [PyData.weight]
  split <;> omega
theorem szd_bool {b : Bool} : Szd 0 0 (.bool b) := ⟨rfl, rfl, rfl, by simp [PyData.weight], by simp [PyData.depth]⟩
theorem szd_none : Szd 0 0 .none := ⟨rfl, rfl, rfl, by simp [PyData.weight], by simp [PyData.depth]⟩
theorem Szd.shw {w n : Nat} {d : PyData} (h : Szd w n d) (hw : w ≤ 1048576) (hn : n ≤ 60) : Shw d := ⟨h.sh, Nat.le_trans h.dp hn, h.nd, PyData.shown_fits (B := 13) (by decide) (by decide) h.lv (Nat.le_trans h.we (by simpa using hw))⟩
theorem shw_ints {ns : List Int} (h : ∀ n ∈ ns, n.natAbs < 10 ^ 12) (hl : ns.length ≤ 20000) : Shw (.list (ns.map fun z => (.int z))) := by
  refine (szd_list (w := 41) (n := 0) fun d hd => ?_).shw (by rw [List.length_map]; omega) (by omega)
  obtain ⟨n, hn, rfl⟩ := List.mem_map.mp hd
  exact szd_int (h n hn)
theorem shw_bools {bs : List Bool} (hl : bs.length ≤ 20000) : Shw (.list (bs.map fun z => (.bool z))) := by
  refine (szd_list (w := 0) (n := 0) fun d hd => ?_).shw (by rw [List.length_map]; omega) (by omega)
  obtain ⟨n, hn, rfl⟩ := List.mem_map.mp hd
  exact szd_bool
end Toy
namespace Toy
open PySem L2 PySem.Spec PyProof.Rows
/-! ## written dicts of the top, with text keys -/
def dlk {α : Type} (T : List (Str × α)) (x : Str) : Option α := (T.find? fun p => decide (p.1 = x)).map (·.2)
def KDc (K : PySem.W.Frag) (w : World) (a : Addr) {α : Type} (f : α → V) (T : List (Str × α)) : Prop :=
  ∀ x v, dlk T x = some v → ∃ es n u, KDict K w a es n ∧ PySem.W.nsIn K a x = some (some u) ∧ RelV (f v) u
theorem dlk_mem {α : Type} {T : List (Str × α)} {x : Str} {v : α} (h : dlk T x = some v) : (x, v) ∈ T := by
  obtain ⟨p, h1, h2⟩ := Option.map_eq_some_iff.mp h
  have := List.find?_some h1
  have e : p.1 = x := of_decide_eq_true this
  rw [← e, ← h2]
  exact List.mem_of_find?_eq_some h1
theorem kdc_of {K : PySem.W.Frag} {w : World} {a : Addr} {α : Type} {f : α → V} {T : List (Str × α)} (h : ∃ es n, KDict K w a es n) (hn : ∀ p ∈ T, ∃ u, PySem.W.nsIn K a p.1 = some (some u) ∧ RelV (f p.2) u) : KDc K w a f T := fun x v hx => by
  obtain ⟨es, n, d⟩ := h
  obtain ⟨u, e, r⟩ := hn _ (dlk_mem hx)
  exact ⟨es, n, u, d, e, r⟩
def rInD (K : PySem.W.Frag) (w : World) : R2 := fun x y H Q => ∃ z d es n u, x = .str z ∧ y = .ref d ∧ KDict K w d es n ∧ PySem.W.nsIn K d z = some (some u) ∧ Q (.bl true) H
def rNiD (K : PySem.W.Frag) (w : World) : R2 := fun x y H Q => ∃ z d es n u, x = .str z ∧ y = .ref d ∧ KDict K w d es n ∧ PySem.W.nsIn K d z = some (some u) ∧ Q (.bl false) H
section
variable {X : Cx} {K : PySem.W.Frag} {w : World}
theorem ixKD (hK : X.K = K := by rfl) (hw : X.w = w := by rfl) : IxR X (rIxD K w) := by subst hK hw; exact ix_kdict
theorem inKD (hK : X.K = K := by rfl) (hw : X.w = w := by rfl) : OpR X (compareOp .In) (rInD K w) := by
  subst hK hw
  intro pins s σ H x y v u Q I rx ry h
  obtain ⟨z, d, es, n, u0, e1, e2, D, e, q⟩ := h
  exact op_in_kd D pins s σ H x y v u Q I rx ry ⟨z, _, e1, e2, e, q⟩
theorem niKD (hK : X.K = K := by rfl) (hw : X.w = w := by rfl) : OpR X (compareOp .NotIn) (rNiD K w) := by
  subst hK hw
  intro pins s σ H x y v u Q I rx ry h
  obtain ⟨z, d, es, n, u0, e1, e2, D, e, q⟩ := h
  exact op_notIn_kd D pins s σ H x y v u Q I rx ry ⟨z, _, e1, e2, e, q⟩
end
section
variable {K : PySem.W.Frag} {w : World} {α : Type} {L R : List HA} {Q : VK} {f : α → V} {T : List (Str × α)} {a l : Addr} {x : Str}
theorem c_ixD {k : α → Prop} (hm : obx (dlk T x) k) (d : KDc K w a f T) (q : ∀ v, k v → Ent L (Q (f v))) : Ent L fun H => rIxD K w (.ref a) (.str x) H Q := fun H h => by
  obtain ⟨v, e, hk⟩ := hm
  obtain ⟨es, n, u, D, e2, r⟩ := d x v e
  exact ⟨a, x, f v, rfl, rfl, ⟨es, n, u, D.at_, D.lit, e2, r⟩, q v hk H h⟩
theorem c_inD {k : Prop} (hm : grd ((dlk T x).isSome = true) k) (d : KDc K w a f T) (q : k → Ent L (Q (.bl true))) : Ent L fun H => rInD K w (.str x) (.ref a) H Q := fun H h => by
  obtain ⟨v, e⟩ := Option.isSome_iff_exists.mp hm.1
  obtain ⟨es, n, u, D, e2, r⟩ := d x v e
  exact ⟨x, a, es, n, u, rfl, rfl, D, e2, q hm.2 H h⟩
theorem c_niD {k : Prop} (hm : grd ((dlk T x).isSome = true) k) (d : KDc K w a f T) (q : k → Ent L (Q (.bl false))) : Ent L fun H => rNiD K w (.str x) (.ref a) H Q := fun H h => by
  obtain ⟨v, e⟩ := Option.isSome_iff_exists.mp hm.1
  obtain ⟨es, n, u, D, e2, r⟩ := d x v e
  exact ⟨x, a, es, n, u, rfl, rfl, D, e2, q hm.2 H h⟩
/-! ## list.index of texts -/
def ixof {α : Type} [DecidableEq α] (xs : List α) (y : α) : Option Nat := xs.findIdx? fun z => decide (z = y)
theorem mtIndexK {X : Cx} (hK : X.K = K := by rfl) : MtR X "list.index" (rIndex K) := by subst hK; exact mt_index
theorem strs_of {xs : List Str} {vs : List V} {H : Hp} (h : All2 ((kSt (K := K)).P H) vs xs) : vs = xs.map V.str := by
  induction h with
  | nil => rfl
  | cons h _ ih =>
    obtain ⟨rfl, _⟩ := h
    rw [ih]; rfl
theorem c_indexS {xs : List Str} {k : Nat → Prop} (hm : obx (ixof xs x) k) (t : Take (ls (kSt (K := K)) l xs) L R) (q : ∀ j : Nat, k j → Ent L (Q (.int j))) : Ent L fun H => rIndex K (.ref l) [.str x] H Q := fun H h => by
  obtain ⟨j, e, hk⟩ := hm
  obtain ⟨vs, h1, h2⟩ := t.ls h
  obtain rfl := strs_of h2
  obtain ⟨hj, hp, hn⟩ := List.findIdx?_eq_some_iff_getElem.mp e
  refine ⟨l, xs.map V.str, .str x, j, .str x, rfl, rfl, SqL.of h1, rfl, ?_, ?_, ?_, ?_, q j hk H h⟩
  · simp [List.all_map, Function.comp_def, flatV]
  · rw [List.getElem?_map, List.getElem?_eq_getElem hj]
    simp only [decide_eq_true_eq] at hp
    rw [hp]; rfl
  · simp [eqV]
  · intro m z' hmj hz
    rw [List.getElem?_map, List.getElem?_eq_getElem (by omega)] at hz
    have := hn m hmj
    simp only [decide_eq_true_eq] at this
    obtain rfl := (Option.some.inj hz).symm
    simp [eqV, this]
theorem e_tyPt {us : List V} {φ : Hp → Prop} (t : Take (pt l (.lst us)) L R) (q : Ent L φ) : Ent L fun H => tyV K "list" (.ref l) H ∧ φ H := fun H k => ⟨.inl ⟨rfl, us, .inl (.inl (t.pt k))⟩, q H k⟩
theorem c_reprV {β : Type} {Es : Els K β} {v : V} {y : β} {D : PyData} {k : Prop} (hm : grd (Shw D) k) (t : Take (vl (kTup Es) v y) L R) (e : (kTup Es).d y = D) (q : k → Ent L (Q (.str D.shown))) : Ent L fun H => rReprC (ctE (kTup Es)) [v] H Q := fun H h => by
  subst e
  have p := t.vl h
  obtain ⟨a, us, rfl, _, _⟩ := id p
  exact ⟨a, y, rfl, p, hm.1, q hm.2 H h⟩
/-! ## isinstance -/
theorem ty_I {L : List HA} (n : Int) : ∀ H, Holds L H → TyX K H (.int n) (.type "int") := fun _ _ => .base (.int n)
theorem ty_B {L : List HA} (b : Bool) : ∀ H, Holds L H → TyX K H (.bl b) (.type "bool") := fun _ _ => .base (.bl b)
theorem ty_S {L : List HA} (x : Str) : ∀ H, Holds L H → TyX K H (.str x) (.type "str") := fun _ _ => .base (.str x)
theorem e_exb {b : Bool} {φ : Hp → Prop} (q : Ent L φ) : Ent L fun H => ∃ c, V.bl b = .bl c ∧ φ H := fun H h => ⟨b, rfl, q H h⟩
end
/-! ## frozen lists, tuples of any length -/
section
variable {K : PySem.W.Frag} {α β : Type} {L R R' : List HA} {Q : VK} {φ : Hp → Prop} {E : El K α} {a b l : Addr} {v : V} {us : List V} {xs ys : List α}
theorem sqAt_fz (t : Take (vl (kFz E) (.ref a) xs) L R) : SqAt E L (.ref a) xs := .lst fun H h => by
  obtain ⟨c, o, vs, e, h1, h2⟩ := t.vl h
  cases e
  exact ⟨vs, .inl (.inr ⟨o, h1⟩), h2⟩
theorem Ent.vFz {M : V → List HA} {ψ : V → Hp → Prop} (q : ∀ a, Ent (vl (kFz E) (.ref a) xs :: M (.ref a)) (ψ (.ref a))) (v : V) : Ent (vl (kFz E) v xs :: M v) (ψ v) := fun H h => by
  obtain ⟨e, _⟩ := h.hd_vl
  obtain ⟨c, o, vs, rfl, _⟩ := e
  exact q c H h
theorem Ent.vTr {M : V → List HA} {ψ : V → Hp → Prop} (q : ∀ a, Ent (vl (kT E) (.ref a) xs :: M (.ref a)) (ψ (.ref a))) (v : V) : Ent (vl (kT E) v xs :: M v) (ψ v) := fun H h => by
  obtain ⟨e, _⟩ := h.hd_vl
  obtain ⟨c, vs, rfl, _⟩ := e
  exact q c H h
theorem Ent.vI2 {M : V → List HA} {n : Int} {ψ : V → Hp → Prop} (q : Ent (M (.int n)) (ψ (.int n))) (v : V) : Ent (vl (K := K) kI v n :: M v) (ψ v) := fun H h => by
  obtain ⟨e, h'⟩ := h.hd_vl
  obtain rfl : v = .int n := e
  exact q H h'
theorem Ent.vB2 {M : V → List HA} {n : Bool} {ψ : V → Hp → Prop} (q : Ent (M (.bl n)) (ψ (.bl n))) (v : V) : Ent (vl (K := K) kB v n :: M v) (ψ v) := fun H h => by
  obtain ⟨e, h'⟩ := h.hd_vl
  obtain rfl : v = .bl n := e
  exact q H h'
theorem Ent.vS2 {M : V → List HA} {n : Str} {ψ : V → Hp → Prop} (q : Ent (vl (K := K) kSt (.str n) n :: M (.str n)) (ψ (.str n))) (v : V) : Ent (vl (K := K) kSt v n :: M v) (ψ v) := fun H h => by
  obtain ⟨e, _⟩ := h.hd_vl
  obtain rfl : v = .str n := e.1
  exact q H h
theorem Ent.elsCFz {B : Els K β} {x : List α × β} (q : ∀ c us', us = .ref c :: us' → Ent (vEls B us' x.2 :: vl (kFz E) (.ref c) x.1 :: L) φ) : Ent (vEls (kC (kFz E) B) us x :: L) φ := fun H h => by
  obtain ⟨⟨u, us', e, h1, h2⟩, h⟩ := h.hd_els
  obtain ⟨c, o, vs, rfl, h3⟩ := id h1
  exact q c us' e H ((h.vl h1).els h2)
theorem Ent.els1Fz {x : List α} (q : ∀ c, us = [.ref c] → Ent (vl (kFz E) (.ref c) x :: L) φ) : Ent (vEls (kC1 (kFz E)) us x :: L) φ := fun H h => by
  obtain ⟨⟨u, e, h1⟩, h⟩ := h.hd_els
  obtain ⟨c, o, vs, rfl, h3⟩ := id h1
  exact q c e H (h.vl h1)
theorem Ent.elsCT {B : Els K β} {x : List α × β} (q : ∀ c us', us = .ref c :: us' → Ent (vEls B us' x.2 :: vl (kT E) (.ref c) x.1 :: L) φ) : Ent (vEls (kC (kT E) B) us x :: L) φ := fun H h => by
  obtain ⟨⟨u, us', e, h1, h2⟩, h⟩ := h.hd_els
  obtain ⟨c, vs, rfl, h3⟩ := id h1
  exact q c us' e H ((h.vl h1).els h2)
theorem Ent.els1T {x : List α} (q : ∀ c, us = [.ref c] → Ent (vl (kT E) (.ref c) x :: L) φ) : Ent (vEls (kC1 (kT E)) us x :: L) φ := fun H h => by
  obtain ⟨⟨u, e, h1⟩, h⟩ := h.hd_els
  obtain ⟨c, vs, rfl, h3⟩ := id h1
  exact q c e H (h.vl h1)
theorem c_tupFz (t : Take (vl (kFz E) (.ref a) xs) L R) (q : ∀ p, Ent (vl (kT E) (.ref p) xs :: L) (Q (.ref p))) : Ent L fun H => rTupK K [.ref a] H Q := fun H z => by
  obtain ⟨c, o, vs, e, h1, h2⟩ := t.vl z
  cases e
  refine ⟨_, vs, rfl, .inl ⟨.inl (.inr ⟨o, h1⟩), fun p np => q p _ ?_⟩⟩
  have h3 : Holds L (L2.upd H p (.tup vs)) := Sub.to (Sub.drop Sub.refl) (z.newI (o := .tup vs) np rfl)
  exact h3.vl ⟨p, vs, rfl, SqT.of upd_same, h2.imp fun _ _ y => E.st y (keepI_new np)⟩
theorem c_inSq {xs : List Int} {i : Int} (h : SqAt (kI (K := K)) L v xs) (q : Ent L (Q (.bl (decide (i ∈ xs))))) : Ent L fun H => rIn K false (.int i) v H Q := fun H z => by
  cases h with
  | lst h =>
    obtain ⟨vs, h1, h2⟩ := h H z
    obtain rfl := all2_I h2
    exact ⟨_, _, rfl, .inl h1, rfl, flat_ints _, by rw [inV_int]; exact q H z⟩
  | tup h =>
    obtain ⟨a, vs, rfl, h1, h2⟩ := h H z
    obtain rfl := all2_I h2
    exact ⟨_, _, rfl, .inr h1, rfl, flat_ints _, by rw [inV_int]; exact q H z⟩
theorem c_niSq {xs : List Int} {i : Int} (h : SqAt (kI (K := K)) L v xs) (q : Ent L (Q (.bl (!decide (i ∈ xs))))) : Ent L fun H => rIn K true (.int i) v H Q := fun H z => by
  cases h with
  | lst h =>
    obtain ⟨vs, h1, h2⟩ := h H z
    obtain rfl := all2_I h2
    exact ⟨_, _, rfl, .inl h1, rfl, flat_ints _, by rw [inV_int]; exact q H z⟩
  | tup h =>
    obtain ⟨a, vs, rfl, h1, h2⟩ := h H z
    obtain rfl := all2_I h2
    exact ⟨_, _, rfl, .inr h1, rfl, flat_ints _, by rw [inV_int]; exact q H z⟩
/-! a new list out of two, frozen ones too -/
def RdL (E : El K α) (L : List HA) (a : Addr) (xs : List α) : Prop := ∀ H, Holds L H → ∃ us, Rd H a (.lst us) ∧ All2 (E.P H) us xs
theorem rdL_ls (t : Take (ls E a xs) L R) : RdL E L a xs := fun H h => by
  obtain ⟨us, h1, h2⟩ := t.ls h
  exact ⟨us, .inl h1, h2⟩
theorem rdL_fz (t : Take (vl (kFz E) (.ref a) xs) L R) : RdL E L a xs := fun H h => by
  obtain ⟨c, o, us, e, h1, h2⟩ := t.vl h
  cases e
  exact ⟨us, .inr ⟨o, h1⟩, h2⟩
def rCatZ : R2 := fun x y H Q => ∃ p r us ws, x = .ref p ∧ y = .ref r ∧ Rd H p (.lst us) ∧ Rd H r (.lst ws) ∧ us.length + ws.length ≤ sizeLine ∧ ∀ n, H n = none → Q (.ref n) (upd H n (.lst (us ++ ws)))
theorem op_catZ {X : Cx} : OpR X (binaryOp .Add) rCatZ := fun pins s σ H x y v u Q I rx ry ⟨p, r, us, ws, e1, e2, hp, hr, hz, q⟩ => by
  subst e1 e2
  obtain rfl : v = .ref p := rx
  obtain rfl : u = .ref r := ry
  obtain ⟨_, is1, n1, v1, g1⟩ := hp.ok I.hok
  obtain ⟨_, is2, n2, v2, g2⟩ := hr.ok I.hok
  have l1 := v1.length
  have l2 := v2.length
  have both : is1.toArray ++ is2.toArray = (is1 ++ is2).toArray := by simp
  refine PySem.P.add_list g1 g2 ?_ (by rw [List.size_toArray, List.size_toArray, ← l1, ← l2]; exact hz)
  rw [both]
  exact ⟨.ref _, _, I.lnew (t' := s.toks) (v1.append v2) (by rw [List.length_append]; exact hz), rfl, q _ I.fresh⟩
theorem c_catZ (E : El K α) {k : Prop} (hm : grd (xs.length + ys.length ≤ 100000) k) (h1 : RdL E L a xs) (h2 : RdL E L b ys) (q : k → ∀ p, Ent (ls E p (xs ++ ys) :: L) (Q (.ref p))) : Ent L fun H => rCatZ (.ref a) (.ref b) H Q := fun H h => by
  obtain ⟨us, z1, z2⟩ := h1 H h
  obtain ⟨ws, z3, z4⟩ := h2 H h
  exact ⟨a, b, us, ws, rfl, rfl, z1, z3, by rw [z2.len, z4.len]; exact Nat.le_trans hm.1 (by decide), fun p np => q hm.2 p _ (h.ls_new np (z2.app z4))⟩
end
/-! a frozen list, walked -/
def iFz (K : PySem.W.Frag) (te : TE) : TI := iList K te
def kLcF (K : PySem.W.Frag) (v : V) (g : TG) (tt : TT) (te : TE) (vs : List Nat) : TE := tLc (iFz K (tC v)) g tt te vs
section
variable {K : PySem.W.Frag} {α β : Type} {L R : List HA} {σ : L2.St} {Q : VK} {E : El K α} {a : Addr} {xs : List α} {te : TE}
theorem pi_fz {X : Cx} {tg l : Expr} {tl : TE} (hl : PE X l tl) (hK : X.K = K := by rfl) : PI X tg l (iFz K tl) := by
  subst hK
  exact pi_list hl
theorem e_lcF0 {t0 : TE} {g : TG} {tt : TT} {vs : List Nat} (q : Ent L fun H => t0 σ H fun v H1 => kLcF K v g tt te vs σ H1 Q) : Ent L fun H => tLc (iFz K t0) g tt te vs σ H Q := fun H h => q H h
theorem c_lcFz {bd : α → (Option β → Prop) → Prop} {k : List β → Prop} {g : TG} {tt : TT} {vs : List Nat} (E' : El K β) (hm : grd (xs.length ≤ 100000) (lcL xs [] bd k)) (t : Take (vl (kFz E) (.ref a) xs) L R)
    (step : ∀ x (nxt : Option β → Prop), bd x nxt → ∀ v D ys (r : VK) (s : Hp → Prop), (∀ v' y, nxt (some y) → Ent (vl E' v' y :: ls E' D ys :: L) (r v')) → (nxt none → Ent (ls E' D ys :: L) s) → Ent (vl E v x :: ls E' D ys :: L) fun H => g v (wipe σ vs) H fun σ2 H2 => wipe σ2 vs = wipe σ vs ∧ tt σ2 H2 fun b H3 => if b = true then te σ2 H3 r else s H3)
    (q : ∀ ys, k ys → ∀ D, Ent (ls E' D ys :: L) (Q (.ref D))) : Ent L fun H => kLcF K (.ref a) g tt te vs σ H Q := fun H h => by
  have z : ∀ H, Holds L H → ∃ vs, SqL K H a vs ∧ All2 (E.P H) vs xs := fun H h => by
    obtain ⟨c, o, us, e, h1, h2⟩ := t.vl h
    cases e
    exact ⟨us, .inl (.inr ⟨o, h1⟩), h2⟩
  obtain ⟨ws, h1, _⟩ := z H h
  exact ⟨_, rfl, ⟨ws, h1⟩, lcSq_core E' (walk_sq z) z hm step q h⟩
end
end Toy
namespace Toy
open PySem L2 PySem.Spec PyProof.Rows
/-! ## tuples of a known length, cut and joined -/
section
variable {K : PySem.W.Frag} {α β γ M B : Type} {L R R' : List HA} {σ : L2.St} {Q : VK} {φ : Hp → Prop} {E : El K α} {F : El K β} {a b l : Addr} {v u y : V} {us vs ys : List V} {nx bk ct : L2.St → Hp → Prop} {rt : VK}
theorem c_slT {lo hi : Option Int} {n : Nat} (h : HasT K L a us) (e : cutV us lo hi = ys) (hn : us.length = n) (hw : (decide (HT.sIx n 0 lo = 0) && decide (HT.sIx n n hi = n)) = false) (q : ∀ p, Ent (tu p ys :: L) (Q (.ref p))) : Ent L fun H => rSlT K (.ref a) lo hi H Q := e_slT h (by subst hn; simpa using hw) fun p => by rw [e]; exact q p
theorem c_catT (h1 : HasT K L a us) (h2 : HasT K L b vs) (e : us ++ vs = ys) (hx : us ≠ []) (hy : vs ≠ []) (hz : us.length + vs.length ≤ 100000) (q : ∀ p, Ent (tu p ys :: L) (Q (.ref p))) : Ent L fun H => rCatT K (.ref a) (.ref b) H Q := e_catT h1 h2 hx hy hz fun p => by rw [e]; exact q p
theorem c_opnSl {Es : Els K α} {x : α} {lo hi : Option Int} (t : Take (vl (kTup Es) v x) L R) (q : ∀ a us, v = .ref a → Ent (vEls Es us x :: tu a us :: L) fun H => rSlT K v lo hi H Q) : Ent L fun H => rSlT K v lo hi H Q := Ent.tupO t q
theorem c_opnCat1 {Es : Els K α} {x : α} (t : Take (vl (kTup Es) v x) L R) (q : ∀ a us, v = .ref a → Ent (vEls Es us x :: tu a us :: L) fun H => rCatT K v y H Q) : Ent L fun H => rCatT K v y H Q := Ent.tupO t q
theorem c_opnCat2 {Es : Els K α} {x : α} (t : Take (vl (kTup Es) v x) L R) (q : ∀ a us, v = .ref a → Ent (vEls Es us x :: tu a us :: L) fun H => rCatT K y v H Q) : Ent L fun H => rCatT K y v H Q := Ent.tupO t q
/-! ## loops over enumerate, zip -/
theorem walk_enE (E : El K α) (l : Addr) (xs : List α) : Walk (Ite K l) xs.length (fun H => ∃ vs, H l = some (.lst vs) ∧ All2 (E.P H) vs xs) (fun i H v H' => ∃ T x u, v = .ref T ∧ H T = none ∧ H' = upd H T (.tup [.int i, u]) ∧ xs[i]? = some x ∧ E.P H u x) :=
  ⟨fun i H hi ⟨vs, z1, z2⟩ => (walk_enum (K := K) (a := l) (xs := vs)).goes i H (by rw [z2.len]; exact hi) (SqL.of z1), fun H ⟨vs, z1, z2⟩ => by
    have := (walk_enum (K := K) (a := l) (xs := vs)).stops H (SqL.of z1)
    rw [z2.len] at this
    exact this, fun i H x H' hi ⟨vs, z1, z2⟩ y => by
    obtain ⟨T, a, b, e1, e2, e3, e4, e5⟩ := (walk_enum (K := K) (a := l) (xs := vs)).yields i H x H' (by rw [z2.len]; exact hi) (SqL.of z1) y
    obtain rfl : V.int (i : Nat) = a := Option.some.inj e4
    obtain ⟨x', hx, hp⟩ := z2.get e5
    exact ⟨T, x', b, e1, e2, e3, hx, hp⟩⟩
theorem c_forEn {xs : List α} {m0 : M} {bd : Int × α → M → (M → Prop) → (M → Prop) → Prop} {k : M → Prop} {g : TG} {tb : TS} (hm : forL (enI xs) m0 bd k) (up : M → B → List (Option (Option V))) (Pm : M → B → List HA) (b0 : B) (h0 : σ = upds σ (up m0 b0)) (s0 : Sub L (Pm m0 b0 ++ R)) (t : Take (ls E l xs) R R')
    (hs : (∀ m b, k m → Ent (Pm m b ++ R) (nx (upds σ (up m b)))) → ∀ x m b (nxt : M → Prop), bd x m nxt k → ∀ T v, Ent (tu T [.int x.1, v] :: vl E v x.2 :: (Pm m b ++ R)) fun H => g (.ref T) (upds σ (up m b)) H fun σ2 H2 => tb ⟨fun σ' H' => ∃ m b, nxt m ∧ σ' = upds σ (up m b) ∧ Holds (Pm m b ++ R) H', rt, nx, fun σ' H' => ∃ m b, nxt m ∧ σ' = upds σ (up m b) ∧ Holds (Pm m b ++ R) H'⟩ σ2 H2)
    (hd : ∀ m b, k m → Ent (Pm m b ++ R) (nx (upds σ (up m b)))) : Ent L fun H => kEnum K (kLoop g tb ⟨nx, rt, bk, ct⟩ σ) [.ref l] H := fun H h => by
  have hL : ∀ m b H', Holds (Pm m b ++ R) H' → ∃ vs, H' l = some (.lst vs) ∧ All2 (E.P H') vs xs := fun m b H' z => by
    obtain ⟨S, z⟩ := z
    obtain ⟨S1, S2, _, z2, _⟩ := HL.app.mp z
    exact t.ls ⟨S2, z2⟩
  obtain ⟨ws, h1, h2⟩ := hL m0 b0 H (s0.to h)
  refine ⟨l, ws, rfl, SqL.of h1, w_loop (walk_enE E l xs) (fun i σ' H' => ∃ m b, forL ((enI xs).drop i) m bd k ∧ i ≤ xs.length ∧ σ' = upds σ (up m b) ∧ Holds (Pm m b ++ R) H') ⟨m0, b0, hm, Nat.zero_le _, h0, s0.to h⟩ (fun i σ' H' _ ⟨m, b, _, _, _, z⟩ => hL m b H' z) (fun i v σ' H' H'' hi ⟨m, b, hf, _, e, z⟩ ⟨T, x, u, e2, nT, eH, hx, hp⟩ => ?_) fun σ' H' ⟨m, b, hf, _, e, z⟩ => ?_⟩
  · subst e e2 eH
    have ed : (enI xs).drop i = ((i : Int), x) :: (enI xs).drop (i + 1) := by
      rw [List.drop_eq_getElem_cons (by rw [enI_len]; exact hi)]
      congr 1
      exact Option.some.inj ((List.getElem?_eq_getElem (by rw [enI_len]; exact hi)).symm.trans (enI_get hx))
    rw [ed, forL_cons] at hf
    have z0 : Holds (tu T [.int i, u] :: vl E u x :: (Pm m b ++ R)) (upd H' T (.tup [.int i, u])) := Sub.to Sub.swap ((z.newI (o := .tup [.int i, u]) nT rfl).vl (E := E) (x := x) (v := u) (E.st hp (keepI_new nT)))
    have r := hs hd ((i : Int), x) m b (fun m' => forL ((enI xs).drop (i + 1)) m' bd k ∧ i + 1 ≤ xs.length) (by
      have : (fun m' => forL ((enI xs).drop (i + 1)) m' bd k ∧ i + 1 ≤ xs.length) = fun m' => forL ((enI xs).drop (i + 1)) m' bd k := by
        funext m'
        exact propext ⟨fun z => z.1, fun z => ⟨z, hi⟩⟩
      rw [this]
      exact hf) T u _ z0
    simpa only [and_assoc] using r
  · subst e
    rw [List.drop_eq_nil_of_le (by rw [enI_len]; exact Nat.le_refl _)] at hf
    exact hd m b hf H' z
/-! ## ranges, walked -/
theorem walk_rg (lo : Int) (n : Nat) : Walk (Itr lo n) (rgI lo n).length (fun _ => True) (fun i H x H' => H' = H ∧ ∃ e, (rgI lo n)[i]? = some e ∧ (kI (K := K)).P H x e) := by
  rw [rgI_len]
  have w := walk_range (lo := lo) (n := n)
  exact ⟨fun i H hi h => w.goes i H hi h, fun H h => w.stops H h, fun i H x H' hi h y => by
    obtain ⟨e1, e2⟩ := w.yields i H x H' hi h y
    exact ⟨e1, _, rgI_get hi, e2⟩⟩
def kLcR1 (g : TG) (tt : TT) (te : TE) (vs : List Nat) (σ : L2.St) (Q : VK) (us : List V) (H : Hp) : Prop := ∃ j : Int, us = [.int j] ∧ -(2 ^ 62) ≤ j ∧ j < 2 ^ 62 ∧ ∀ D, H D = none → ∃ W : Nat → Nat → Hp → Prop, (∃ m, W 0 m (upd H D (.lst []))) ∧ ∀ i m H, W i m H →
  ((Itr 0 j.toNat).stop i H ∧ Q (.ref D) H) ∨ ((Itr 0 j.toNat).go i H ∧ ∃ Nx : Hp → Prop, (∀ H', Nx H' → ∃ m', m' < m ∧ W (i + 1) m' H') ∧ ∀ x H', (Itr 0 j.toNat).yld i H x H' → g x (wipe σ vs) H' fun σ2 H2 => wipe σ2 vs = wipe σ vs ∧ tt σ2 H2 fun b H3 =>
    if b = true then te σ2 H3 fun y H4 => ∃ acc, H4 D = some (.lst acc) ∧ acc.length < sizeLine ∧ Nx (upd H4 D (.lst (acc ++ [y]))) else Nx H3)
def kLcR2 (g : TG) (tt : TT) (te : TE) (vs : List Nat) (σ : L2.St) (Q : VK) (us : List V) (H : Hp) : Prop := ∃ i0 j : Int, us = [.int i0, .int j] ∧ (-(2 ^ 62) ≤ i0 ∧ i0 < 2 ^ 62 ∧ -(2 ^ 62) ≤ j ∧ j < 2 ^ 62) ∧ ∀ D, H D = none → ∃ W : Nat → Nat → Hp → Prop, (∃ m, W 0 m (upd H D (.lst []))) ∧ ∀ i m H, W i m H →
  ((Itr i0 (j - i0).toNat).stop i H ∧ Q (.ref D) H) ∨ ((Itr i0 (j - i0).toNat).go i H ∧ ∃ Nx : Hp → Prop, (∀ H', Nx H' → ∃ m', m' < m ∧ W (i + 1) m' H') ∧ ∀ x H', (Itr i0 (j - i0).toNat).yld i H x H' → g x (wipe σ vs) H' fun σ2 H2 => wipe σ2 vs = wipe σ vs ∧ tt σ2 H2 fun b H3 =>
    if b = true then te σ2 H3 fun y H4 => ∃ acc, H4 D = some (.lst acc) ∧ acc.length < sizeLine ∧ Nx (upd H4 D (.lst (acc ++ [y]))) else Nx H3)
theorem e_lcR10 {tas : TA} {g : TG} {tt : TT} {te : TE} {vs : List Nat} (q : Ent L fun H => tas σ H (kLcR1 g tt te vs σ Q)) : Ent L fun H => tLc (iRng1 tas) g tt te vs σ H Q := q
theorem e_lcR20 {tas : TA} {g : TG} {tt : TT} {te : TE} {vs : List Nat} (q : Ent L fun H => tas σ H (kLcR2 g tt te vs σ Q)) : Ent L fun H => tLc (iRng2 tas) g tt te vs σ H Q := q
theorem c_lcR1 {n : Int} {bd : Int → (Option β → Prop) → Prop} {k : List β → Prop} {g : TG} {tt : TT} {te : TE} {vs : List Nat} (E' : El K β) (hm : grd (-100000 ≤ n ∧ n ≤ 100000) (lcL (rgI 0 n.toNat) [] bd k))
    (step : ∀ x (nxt : Option β → Prop), bd x nxt → ∀ v D ys (r : VK) (s : Hp → Prop), (∀ v' y, nxt (some y) → Ent (vl E' v' y :: ls E' D ys :: L) (r v')) → (nxt none → Ent (ls E' D ys :: L) s) → Ent (vl (K := K) kI v x :: ls E' D ys :: L) fun H => g v (wipe σ vs) H fun σ2 H2 => wipe σ2 vs = wipe σ vs ∧ tt σ2 H2 fun b H3 => if b = true then te σ2 H3 r else s H3)
    (q : ∀ ys, k ys → ∀ D, Ent (ls E' D ys :: L) (Q (.ref D))) : Ent L fun H => kLcR1 g tt te vs σ Q [.int n] H := fun H h => by
  refine ⟨n, rfl, by have := hm.1; omega, by have := hm.1; omega, ?_⟩
  exact lcSq_core E' (walk_rg 0 n.toNat) (fun _ _ => trivial) ⟨by rw [rgI_len]; have := hm.1; omega, hm.2⟩ step q h
theorem c_lcR2 {i0 n : Int} {bd : Int → (Option β → Prop) → Prop} {k : List β → Prop} {g : TG} {tt : TT} {te : TE} {vs : List Nat} (E' : El K β) (hm : grd (-1000000000000 ≤ i0 ∧ i0 ≤ 1000000000000 ∧ n - i0 ≤ 100000 ∧ -1000000000000 ≤ n ∧ n ≤ 1000000000000) (lcL (rgI i0 (n - i0).toNat) [] bd k))
    (step : ∀ x (nxt : Option β → Prop), bd x nxt → ∀ v D ys (r : VK) (s : Hp → Prop), (∀ v' y, nxt (some y) → Ent (vl E' v' y :: ls E' D ys :: L) (r v')) → (nxt none → Ent (ls E' D ys :: L) s) → Ent (vl (K := K) kI v x :: ls E' D ys :: L) fun H => g v (wipe σ vs) H fun σ2 H2 => wipe σ2 vs = wipe σ vs ∧ tt σ2 H2 fun b H3 => if b = true then te σ2 H3 r else s H3)
    (q : ∀ ys, k ys → ∀ D, Ent (ls E' D ys :: L) (Q (.ref D))) : Ent L fun H => kLcR2 g tt te vs σ Q [.int i0, .int n] H := fun H h => by
  refine ⟨i0, n, rfl, by have := hm.1; omega, ?_⟩
  exact lcSq_core E' (walk_rg i0 (n - i0).toNat) (fun _ _ => trivial) ⟨by rw [rgI_len]; have := hm.1; omega, hm.2⟩ step q h
/-! loops over range(a, b) -/
theorem forX_core {J : It} {G : Hp → Prop} {xs : List α} {m0 : M} {bd : α → M → (M → Prop) → (M → Prop) → Prop} {k : M → Prop} {g : TG} {tb : TS} (w : Walk J xs.length G (fun i H x H' => H' = H ∧ ∃ e, xs[i]? = some e ∧ E.P H x e)) (hm : forL xs m0 bd k) (up : M → B → List (Option (Option V))) (Pm : M → B → List HA) (b0 : B) (h0 : σ = upds σ (up m0 b0)) (s0 : Sub L (Pm m0 b0 ++ R)) (hG : ∀ H, Holds R H → G H)
    (hs : (∀ m b, k m → Ent (Pm m b ++ R) (nx (upds σ (up m b)))) → ∀ x m b (nxt : M → Prop), bd x m nxt k → ∀ v, Ent (vl E v x :: (Pm m b ++ R)) fun H => g v (upds σ (up m b)) H fun σ2 H2 => tb ⟨fun σ' H' => ∃ m b, nxt m ∧ σ' = upds σ (up m b) ∧ Holds (Pm m b ++ R) H', rt, nx, fun σ' H' => ∃ m b, nxt m ∧ σ' = upds σ (up m b) ∧ Holds (Pm m b ++ R) H'⟩ σ2 H2)
    (hd : ∀ m b, k m → Ent (Pm m b ++ R) (nx (upds σ (up m b)))) : Ent L fun H => kLoop g tb ⟨nx, rt, bk, ct⟩ σ J H := fun H h => by
  have hL : ∀ m b H', Holds (Pm m b ++ R) H' → G H' := fun m b H' z => by
    obtain ⟨S, z⟩ := z
    obtain ⟨S1, S2, _, z2, _⟩ := HL.app.mp z
    exact hG H' ⟨S2, z2⟩
  refine w_loop w (fun i σ' H' => ∃ m b, forL (xs.drop i) m bd k ∧ i ≤ xs.length ∧ σ' = upds σ (up m b) ∧ Holds (Pm m b ++ R) H') ⟨m0, b0, hm, Nat.zero_le _, h0, s0.to h⟩ (fun i σ' H' _ ⟨m, b, _, _, _, z⟩ => hL m b H' z) (fun i x σ' H' H'' hi ⟨m, b, hf, _, e, z⟩ ⟨e2, y, hy, hp⟩ => ?_) fun σ' H' ⟨m, b, hf, _, e, z⟩ => ?_
  · subst e e2
    have ed : xs.drop i = y :: xs.drop (i + 1) := by
      rw [List.drop_eq_getElem_cons hi]
      congr 1
      exact Option.some.inj ((List.getElem?_eq_getElem hi).symm.trans hy)
    rw [ed, forL_cons] at hf
    have r := hs hd y m b (fun m' => forL (xs.drop (i + 1)) m' bd k ∧ i + 1 ≤ xs.length) (by
      have : (fun m' => forL (xs.drop (i + 1)) m' bd k ∧ i + 1 ≤ xs.length) = fun m' => forL (xs.drop (i + 1)) m' bd k := by
        funext m'
        exact propext ⟨fun z => z.1, fun z => ⟨z, hi⟩⟩
      rw [this]
      exact hf) x H'' (z.vl hp)
    simpa only [and_assoc] using r
  · subst e
    rw [List.drop_length] at hf
    exact hd m b hf H' z
def kR2 (g : TG) (tb : TS) (D : Ends) (σ : L2.St) (us : List V) (H : Hp) : Prop := ∃ i j : Int, us = [.int i, .int j] ∧ (-(2 ^ 62) ≤ i ∧ i < 2 ^ 62 ∧ -(2 ^ 62) ≤ j ∧ j < 2 ^ 62) ∧ kLoop g tb D σ (Itr i (j - i).toNat) H
theorem e_forR2 {tas : TA} {g : TG} {tb : TS} (q : Ent L fun H => tas σ H fun vs H1 => kR2 g tb ⟨nx, rt, bk, ct⟩ σ vs H1) : Ent L fun H => tFor (iRng2 tas) g tb ⟨nx, rt, bk, ct⟩ σ H := q
theorem c_forR2 {i0 n : Int} {m0 : M} {bd : Int → M → (M → Prop) → (M → Prop) → Prop} {k : M → Prop} {g : TG} {tb : TS} (hm : grd (-1000000000000 ≤ i0 ∧ i0 ≤ 1000000000000 ∧ -1000000000000 ≤ n ∧ n ≤ 1000000000000) (forL (rgI i0 (n - i0).toNat) m0 bd k)) (up : M → B → List (Option (Option V))) (Pm : M → B → List HA) (b0 : B) (h0 : σ = upds σ (up m0 b0)) (s0 : Sub L (Pm m0 b0 ++ R))
    (hs : (∀ m b, k m → Ent (Pm m b ++ R) (nx (upds σ (up m b)))) → ∀ (x : Int) m b (nxt : M → Prop), bd x m nxt k → Ent (Pm m b ++ R) fun H => g (.int x) (upds σ (up m b)) H fun σ2 H2 => tb ⟨fun σ' H' => ∃ m b, nxt m ∧ σ' = upds σ (up m b) ∧ Holds (Pm m b ++ R) H', rt, nx, fun σ' H' => ∃ m b, nxt m ∧ σ' = upds σ (up m b) ∧ Holds (Pm m b ++ R) H'⟩ σ2 H2)
    (hd : ∀ m b, k m → Ent (Pm m b ++ R) (nx (upds σ (up m b)))) : Ent L fun H => kR2 g tb ⟨nx, rt, bk, ct⟩ σ [.int i0, .int n] H := fun H h => by
  refine ⟨i0, n, rfl, by have := hm.1; omega, ?_⟩
  refine forX_core (E := kI (K := [])) (walk_rg i0 (n - i0).toNat) hm.2 up Pm b0 h0 s0 (fun _ _ => trivial) (fun hk x m b nxt hb v => ?_) hd H h
  intro H' z
  obtain ⟨e, z'⟩ := z.hd_vl
  obtain rfl : v = .int x := e
  exact hs hk x m b nxt hb H' z'
theorem c_rgLs {i j : Int} {k : Prop} (hm : grd (0 ≤ i ∧ j ≤ 16777216 ∧ i ≤ 16777216 ∧ 0 ≤ j) k) (q : k → ∀ p, Ent (ls (kI (K := K)) p (rgI i (j - i).toNat) :: L) (Q (.ref p))) : Ent L fun H => kRgL Q i j H := fun H h => by
  refine ⟨RgOk.of_le hm.1.1 hm.1.2.1 hm.1.2.2.1 hm.1.2.2.2, fun p np => q hm.2 p _ ?_⟩
  have e : rgV i j = (rgI i (j - i).toNat).map V.int := by
    unfold rgV rgI
    rw [List.map_map]
    rfl
  rw [e]
  exact h.ls_new np (All2.map V.int fun _ _ => rfl)
/-! ## list.remove of data -/
theorem _root_.L2.Room.units65 {k : Nat} {A : Around} (r : L2.Room k A) : A.units + 65 < cLine := by
  have := r.un
  omega
def rRemD (K : PySem.W.Frag) : V → List V → Hp → VK → Prop := fun x xs H Q => ∃ (l : Addr) (y : V) (us : List V) (d : PyData) (ds : List PyData) (j : Nat), x = .ref l ∧ xs = [y] ∧ H l = some (.lst us) ∧ DpAll K H us ds ∧ Dp K H y d ∧ PyData.canLayAll0 ds = true ∧ d.canLay0 = true ∧ PyData.depthAll ds ≤ 64 ∧
  (ds.findIdx? fun z => PyData.eqv z d) = some j ∧ Q .non (upd H l (.lst (us.eraseIdx j)))
theorem mt_remD {X : Cx} (hu : X.A.units + 65 < cLine) (hK : X.K = K := by rfl) : MtM X "list.remove" (rRemD K) := by
  subst hK
  intro pins s σ H x xs v us Q I rx rxs h
  obtain ⟨l, y, ws, d, ds, j, rfl, rfl, hH, hall, hd, hl0, hd0, hdep, hj, q⟩ := h
  cases rx
  obtain ⟨u, rfl, ru⟩ := rxs.one
  obtain ⟨z, its, n, r, hl, e⟩ := I.lstM hH
  obtain ⟨bs, r1⟩ := Dp.reads I d y u hd ru
  obtain ⟨as, h4⟩ := Dp.readsAll I ds ws its hall r
  have hn : its.length = ds.length := SeqAt.ReadsAll.length ds its as h4
  have hmap : its.map (SeqAt.readOf s.heap) = ds := SeqAt.readsAll_map ds its as hl0 h4
  obtain ⟨hjd, h2, h3⟩ := List.findIdx?_eq_some_iff_getElem.mp hj
  have hroom : X.A.units + 1 + min (PyData.depthAll ds) d.depth < cLine := by
    have := Nat.min_le_left (PyData.depthAll ds) d.depth
    omega
  have at_ : ∀ (m : Nat) (hm : m < its.toArray.size) (hm2 : m < ds.length), SeqAt.readOf s.heap its.toArray[m] = ds[m] := by
    intro m hm hm2
    have hml : m < its.length := by simpa using hm
    have e1 : (its.map (SeqAt.readOf s.heap))[m]? = ds[m]? := by rw [hmap]
    rw [List.getElem?_map, List.getElem?_eq_getElem hml, List.getElem?_eq_getElem hm2] at e1
    simpa using Option.some.inj e1
  have hjl : j < its.toArray.size := by rw [List.size_toArray]; omega
  refine call_meets PySem.F.slot_list_remove ⟨_, e, rfl⟩ PySem.F.entry_list_remove (PySem.F.args_list_remove_2 _ _)
    (SeqAt.list_removeAt l its.toArray n none #[] u (fun y => PyData.eqv (SeqAt.readOf s.heap y) d) j hjl ?_ ?_ (by rw [List.size_toArray, ← hl]; exact z)) ⟨e, SeqAt.items_eqAt (vs := its.toArray) (show ReadsAll s.heap its.toArray.toList ds as from h4) r1 hl0 hd0 hroom, ?_⟩
  · show PyData.eqv (SeqAt.readOf s.heap its.toArray[j]) d = true
    rw [at_ j hjl hjd]
    exact h2
  · intro m hm hmj
    show PyData.eqv (SeqAt.readOf s.heap its.toArray[m]) d = false
    rw [at_ m hm (by omega)]
    simpa using h3 m hmj
  · have rr := r.eraseIdx j
    refine ⟨.non, _, I.lset (its' := its.eraseIdx j) (t' := s.toks) hH e ?_ rr ?_, rfl, q⟩
    · show its.toArray.eraseIdxIfInBounds j = (its.eraseIdx j).toArray
      rw [List.eraseIdxIfInBounds_toArray]
    · have := List.length_eraseIdx_le ws j
      omega
theorem c_remD [DecidableEq α] {xs : List α} {x : α} {k : Nat → Prop} (hm : obx (ixof xs x) k) (t : Take (ls E l xs) L R) (hv : Is E L v x) (D : ElD E) (hn : D.n ≤ 64) (q : ∀ j, k j → Ent (ls E l (xs.eraseIdx j) :: R) (Q .non)) : Ent L fun H => rRemD K (.ref l) [v] H Q := fun H h => by
  obtain ⟨j, e, hk⟩ := hm
  obtain ⟨us, h1, h2⟩ := t.ls h
  have hx := hv H h
  refine ⟨l, v, us, E.d x, xs.map E.d, j, rfl, rfl, h1, dpAll_of (h2.imp fun _ _ z => E.dp z), E.dp hx, ElD.layAll h2, D.lay hx, Nat.le_trans (ElD.depAll xs) hn, ?_, q j hk _ ?_⟩
  · rw [List.findIdx?_map]
    unfold ixof at e
    have : (fun z : α => decide (z = x)) = ((fun z => PyData.eqv z (E.d x)) ∘ E.d) := by
      funext z
      exact (D.eqv z x).symm
    rw [this] at e
    exact e
  · obtain ⟨vs, h3, h4⟩ := (t.to h).ls_op
    have e2 : us = vs := by
      have := h3.pt_get
      rw [h1] at this
      cases this
      rfl
    subst e2
    exact Holds.ls_upd (t.to h) (h4.eraseIdx j)
/-! ## things of several owners: options and tuples that hold what is owned -/
structure Ok (α : Type) where
  R : V → α → HA
structure Oks (α : Type) where
  R : List V → α → HA
def oE (E : El K α) : Ok α := ⟨fun v x => vl E v x⟩
def oI (A : Addr → α → HA) : Ok α := ⟨fun v x => ex fun a : Addr => all [pu (v = .ref a), A a x]⟩
def oO (O : Ok α) : Ok (Option α) := ⟨fun v x => match x with | none => pu (v = .non) | some y => O.R v y⟩
def oC1 (O : Ok α) : Oks α := ⟨fun us x => ex fun u : V => all [pu (us = [u]), O.R u x]⟩
def oC (O : Ok α) (Os : Oks β) : Oks (α × β) := ⟨fun us x => ex fun u : V => ex fun us' : List V => all [pu (us = u :: us'), O.R u x.1, Os.R us' x.2]⟩
def oT (Os : Oks α) : Ok α := ⟨fun v x => ex fun p : Addr => ex fun us : List V => all [pu (v = .ref p), tu p us, Os.R us x]⟩
class OkN {α : Type} (O : Ok α) : Prop where
  n : ∀ {v x L H}, Holds (O.R v x :: L) H → v ≠ .non
instance {A : Addr → α → HA} : OkN (oI A) := ⟨fun {v x L H} h z => by
  obtain ⟨S, S1, S2, ⟨a, ⟨_, _, h1, _⟩⟩, _⟩ := h
  rw [z] at h1
  cases h1.1⟩
instance {Os : Oks α} : OkN (oT Os) := ⟨fun {v x L H} h z => by
  obtain ⟨S, S1, S2, ⟨a, us, ⟨_, _, h1, _⟩⟩, _⟩ := h
  rw [z] at h1
  cases h1.1⟩
section
variable {O : Ok α} {Os : Oks β} {Oa : Oks α} {A : Addr → α → HA}
theorem c_getO {o : Option α} {k : α → Prop} (hm : obg o k) (t : Take ((oO O).R v o) L R) (q : ∀ w, k w → o = some w → Ent (O.R v w :: R) φ) : Ent L φ := by
  obtain ⟨w, e, hk⟩ := hm
  subst e
  exact Ent.sub t (q w hk rfl)
theorem ow_none {o : Option α} [N : OkN O] (t : Take ((oO O).R v o) L R) {H : Hp} (h : Holds L H) : decide (v = V.non) = o.isNone := by
  have z := t.to h
  cases o with
  | none =>
    obtain ⟨S, S1, S2, h1, _⟩ := z
    simp [h1.1]
  | some w => simpa using N.n z
theorem c_isOw {o : Option α} (t : Take ((oO O).R v o) L R) (n : OkN O) (q : Ent L (Q (.bl o.isNone))) : Ent L fun H => rIsN v .non H Q := fun H h => ⟨rfl, by rw [ow_none t h]; exact q H h⟩
theorem c_noOw {o : Option α} (t : Take ((oO O).R v o) L R) (n : OkN O) (q : Ent L (Q (.bl (!o.isNone)))) : Ent L fun H => rNoN v .non H Q := fun H h => ⟨rfl, by rw [ow_none t h]; exact q H h⟩
theorem Ent.owT {x : α} (t : Take ((oT Oa).R v x) L R) (q : ∀ p us, v = .ref p → Ent (Oa.R us x :: tu p us :: R) φ) : Ent L φ := Ent.sub t (Ent.ex fun p => Ent.ex fun us => Ent.all (Ent.pu fun e => Ent.sub Sub.swap (q p us e)))
theorem Ent.owC {x : α × β} (q : ∀ u us', us = u :: us' → Ent (Os.R us' x.2 :: O.R u x.1 :: L) φ) : Ent ((oC O Os).R us x :: L) φ := Ent.ex fun u => Ent.ex fun us' => Ent.all (Ent.pu fun e => Ent.sub Sub.swap (q u us' e))
theorem Ent.owC1 {x : α} (q : ∀ u, us = [u] → Ent (O.R u x :: L) φ) : Ent ((oC1 O).R us x :: L) φ := Ent.ex fun u => Ent.all (Ent.pu fun e => q u e)
theorem Ent.owCI {x : α × β} (q : ∀ a us', us = .ref a :: us' → Ent (Os.R us' x.2 :: A a x.1 :: L) φ) : Ent ((oC (oI A) Os).R us x :: L) φ := Ent.owC fun u us' e => Ent.sub Sub.swap (Ent.ex fun a => Ent.all (Ent.pu fun e2 => by
  subst e2
  exact Ent.sub Sub.swap (q a us' e)))
theorem Ent.owC1I {x : α} (q : ∀ a, us = [.ref a] → Ent (A a x :: L) φ) : Ent ((oC1 (oI A)).R us x :: L) φ := Ent.owC1 fun u e => Ent.ex fun a => Ent.all (Ent.pu fun e2 => by
  subst e2
  exact q a e)
theorem Ent.owCE {x : α × β} {E : El K α} (q : ∀ u us', us = u :: us' → Ent (vl E u x.1 :: Os.R us' x.2 :: L) φ) : Ent ((oC (oE E) Os).R us x :: L) φ := Ent.owC fun u us' e => Ent.sub Sub.swap (q u us' e)
theorem Ent.owC1E {x : α} {E : El K α} (q : ∀ u, us = [u] → Ent (vl E u x :: L) φ) : Ent ((oC1 (oE E)).R us x :: L) φ := Ent.owC1 q
theorem Ent.owCEI {x : Int × β} (q : ∀ us', us = .int x.1 :: us' → Ent (Os.R us' x.2 :: L) φ) : Ent ((oC (oE (kI (K := K))) Os).R us x :: L) φ := Ent.owC fun u us' e => Ent.sub Sub.swap fun H h => by
  have z := Holds.hd_vl (E := kI (K := K)) (v := u) (x := x.1) h
  obtain rfl : u = .int x.1 := z.1
  exact q us' e H z.2
theorem Ent.owC1EI {x : Int} (q : us = [.int x] → Ent L φ) : Ent ((oC1 (oE (kI (K := K)))).R us x :: L) φ := Ent.owC1 fun u e H h => by
  have z := Holds.hd_vl (E := kI (K := K)) (v := u) (x := x) h
  obtain rfl : u = .int x := z.1
  exact q e H z.2
theorem c_opnO {x : α} {i : V} (t : Take ((oT Oa).R v x) L R) (q : ∀ a us, v = .ref a → Ent (Oa.R us x :: tu a us :: R) fun H => rIxT K v i H Q) : Ent L fun H => rIxT K v i H Q := Ent.owT t q
theorem c_opnOG {x : α} {n : Nat} {ts : TGs} {Q : L2.St → Hp → Prop} (t : Take ((oT Oa).R v x) L R) (q : ∀ a us, v = .ref a → Ent (Oa.R us x :: tu a us :: R) fun H => gTup K n ts v σ H Q) : Ent L fun H => gTup K n ts v σ H Q := Ent.owT t q
theorem Sub.oNone {N : List HA} (s : Sub L N) : Sub L ((oO O).R .non none :: N) := Sub.pu rfl s
theorem Sub.oSome {N : List HA} {x : α} (s : Sub L (O.R v x :: N)) : Sub L ((oO O).R v (some x) :: N) := s
theorem Sub.oSomeE {N : List HA} {o : Option α} {x : α} (e : o = some x) (s : Sub L (O.R v x :: N)) : Sub L ((oO O).R v o :: N) := by subst e; exact s
theorem Sub.oT {N : List HA} {x : α} {p : Addr} {us : List V} (s : Sub L (tu p us :: Oa.R us x :: N)) : Sub L ((oT Oa).R (.ref p) x :: N) := Sub.ex p (Sub.ex us (Sub.all (Sub.pu rfl s)))
theorem Sub.oTt {N : List HA} {x : α} {p : Addr} {us : List V} (t : Take (tu p us) L R) (s : Sub L (Oa.R us x :: N)) : Sub L ((Toy.oT Oa).R (.ref p) x :: N) := Sub.oT (Sub.take t.keep s)
theorem Sub.oC {N : List HA} {x : α} {y : β} {u : V} (s : Sub L (O.R u x :: Os.R us y :: N)) : Sub L ((oC O Os).R (u :: us) (x, y) :: N) := Sub.ex u (Sub.ex us (Sub.all (Sub.pu rfl s)))
theorem Sub.oC1 {N : List HA} {x : α} {u : V} (s : Sub L (O.R u x :: N)) : Sub L ((oC1 O).R [u] x :: N) := Sub.ex u (Sub.all (Sub.pu rfl s))
theorem Sub.oI {N : List HA} {x : α} {a : Addr} (s : Sub L (A a x :: N)) : Sub L ((oI A).R (.ref a) x :: N) := Sub.ex a (Sub.all (Sub.pu rfl s))
theorem Sub.oE {N : List HA} {x : α} {E : El K α} (s : Sub L (vl E v x :: N)) : Sub L ((oE E).R v x :: N) := s
end
end
end Toy
namespace Toy
open PySem L2 PySem.Spec PyProof.Rows
/-! ## dict(d) of a dict -/
section
variable {prog : Program} {w : World} {A : Around} {E : Value → Shared → Prop}
theorem call_dict_of {s : Shared} {d : Addr} {prs : List (L2.Key × Value)} {Q : Value → Shared → Prop} (hS : (d == sysModules) = false) (hd : s.heap.DictOf (mixKind prog w) d prs) (hln : prs.length ≤ sizeLine)
    (h : ∀ h', h'.DictOf (mixKind prog w) s.heap.objs.size (merged [] prs) → (∀ b o, s.heap.get? b = some o → h'.get? b = some o) → Q (.ref s.heap.objs.size) { s with heap := h' }) :
    wpAny (model prog w) A (call (.type "dict") [.ref d]) Q E s := by
  refine callType_codes (Q₁ := fun obj s₁ => obj = .ref s.heap.objs.size ∧ s₁ = { s with heap := s.heap.push { cls := .type "dict", data := .dict #[] } }) PySem.F.kt_called_dict (PySem.F.kt_typeCall_dict_1 _) PySem.F.entry_dict_init (kt_code_dict_new _ ⟨rfl, rfl⟩) ?_
  rintro obj s₁ ⟨rfl, rfl⟩
  have hnew : (s.heap.push { cls := .type "dict", data := .dict #[] }).DictOf (mixKind prog w) s.heap.objs.size [] := Heap.DictOf.new s.heap
  have k0 : ∀ b o, s.heap.get? b = some o → (s.heap.push { cls := .type "dict", data := .dict #[] }).get? b = some o := fun b o e => Heap.get?_push_of_some _ e
  have hd0 : (s.heap.push { cls := .type "dict", data := .dict #[] }).DictOf (mixKind prog w) d prs := hd.at fun o e => k0 _ _ e
  have hlt : d < s.heap.objs.size := by
    obtain ⟨o, _, _, e, _⟩ := hd
    exact Heap.lt_size e
  refine ⟨hnew.typeIs, PySem.F.args_dict_init_2 _ _, ?_⟩
  unfold Builtin.«dict.__init__»
  refine wpAny_bind ?_
  unfold Builtin.Dict.selfAndRest
  refine wpAny_bind (wpAny_notOrdered_dict hnew.typeIs ?_)
  show wpAny _ _ (pure (s.heap.objs.size, [Value.ref d])) _ _ _
  refine wpAny_pure ?_
  show wpAny _ _ (Builtin.Dict.updateFrom "dict.__init__" s.heap.objs.size (.ref d) [] .none) _ _ _
  unfold Builtin.Dict.updateFrom
  refine wpAny_bind (wpAny_typeOf hd0.typeIs ?_)
  rw [if_neg (by decide)]
  refine wpAny_bind ?_
  unfold Builtin.Dict.merge
  refine wpAny_bind ?_
  unfold Builtin.Dict.readDirectly
  refine wpAny_bind (wpAny_isInstance hd0.typeIs isSubtype_dict_dict ?_)
  simp only [Bool.not_true, Bool.false_eq_true, if_false]
  refine wpAny_bind (wpAny_specialOf hd0.typeIs PySem.F.slot_dict_iter.lookup (wpAny_pure ?_))
  simp only [beq_self_eq_true, if_true]
  refine wpAny_bind (wpAny_pure ?_)
  refine wpAny_mergeDict (hsz := by rw [List.length_nil, Nat.zero_add]; exact hln) (Nat.ne_of_gt hlt) hS hnew hd0 fun h' hd' ho' hs' => ?_
  show wpAny _ _ (Builtin.Dict.addKeywords s.heap.objs.size [] >>= _) _ _ _
  refine wpAny_bind (wpAny_pure (wpAny_pure ⟨rfl, h h' hd' fun b o e => ?_⟩))
  exact hs'.2 b (Nat.ne_of_lt (Heap.lt_size e)) |>.trans (k0 b o e)
end
theorem _root_.L2.Room.units1 {k : Nat} {A : Around} (r : L2.Room k A) : A.units + 1 < cLine := by
  have := r.un
  omega
def rDictCp : List V → Hp → VK → Prop := fun xs H Q => ∃ (a : Addr) (kvs : List (L2.Key × V)), xs = [.ref a] ∧ H a = some (.dK kvs) ∧ ∀ p, H p = none → Q (.ref p) (upd H p (.dK kvs))
theorem call_dictCp {X : Cx} : CallR X (.type "dict") rDictCp := by
  intro pins s σ H xs us Q I r q
  obtain ⟨a, kvs, ex, hd, q⟩ := q
  subst ex
  obtain ⟨u, eu, rx⟩ := vals1 r
  subst eu
  cases rx
  obtain ⟨z, hm, vs, rel, dd⟩ := dk_of I.hok hd
  refine call_dict_of hm dd (by rw [← rel.length]; exact z) fun h' hd' k => ?_
  have hm' : (s.heap.objs.size == sysModules) = false := beq_eq_false_iff_ne.mpr (Nat.ne_of_gt I.big)
  have nd : (vs.map (·.1)).Nodup := by
    obtain ⟨_, _, _, _, _, _, _, _, hn⟩ := dd
    exact hn
  rw [merged_nil_of_nodup vs nd] at hd'
  exact ⟨.ref s.heap.objs.size, upd H s.heap.objs.size (.dK kvs), I.laid (t' := s.toks) k (Nat.le_refl _) (show ObjOk X.prog X.w _ _ _ (.dK kvs) from ⟨z, hm', vs, rel, hd'⟩), rfl, q _ (I.hok.fresh (Nat.le_refl _))⟩
def rInDk : R2 := fun x y H Q => ∃ a o, y = .ref a ∧ DGet H a x o ∧ Q (.bl o.isSome) H
def rNiDk : R2 := fun x y H Q => ∃ a o, y = .ref a ∧ DGet H a x o ∧ Q (.bl (!o.isSome)) H
theorem op_inDk {X : Cx} (hu : X.A.units + 1 < cLine) : OpR X (compareOp .In) rInDk := fun pins s σ H x y v u Q I rx ry ⟨a, o, ex, g, q⟩ => by
  subst ex
  obtain rfl : u = Value.ref a := ry
  exact d_in hu I g rx fun s3 I3 => ⟨.bl o.isSome, H, I3, rfl, q⟩
theorem op_niDk {X : Cx} (hu : X.A.units + 1 < cLine) : OpR X (compareOp .NotIn) rNiDk := fun pins s σ H x y v u Q I rx ry ⟨a, o, ex, g, q⟩ => by
  subst ex
  obtain rfl : u = Value.ref a := ry
  exact d_notIn hu I g rx fun s3 I3 => ⟨.bl (!o.isSome), H, I3, rfl, q⟩
theorem isC_lsO {K : PySem.W.Frag} {α : Type} {E : El K α} {L R : List HA} {l : Addr} {xs : List α} (t : Take (ls E l xs) L R) : IsC (ctL (ctE (kO E))) L (.ref l) (xs.map some) := fun H h => by
  obtain ⟨vs, h1, h2⟩ := t.ls h
  refine ⟨l, vs, rfl, SqL.of h1, ?_⟩
  clear h1 t
  induction h2 with
  | nil => exact .nil
  | cons hp ht ih => exact .cons hp ih
/-! ## dicts as lists of pairs -/
section
variable {κ α : Type} [DecidableEq κ]
def dg (d : List (κ × α)) (x : κ) : Option α := (d.find? fun p => decide (p.1 = x)).map (·.2)
def dp (d : List (κ × α)) (x : κ) (v : α) : List (κ × α) := if (d.any fun p => decide (p.1 = x)) = true then d.map (fun p => if p.1 = x then (p.1, v) else p) else d ++ [(x, v)]
def dd (d : List (κ × α)) (x : κ) : List (κ × α) := d.filter fun p => decide (p.1 ≠ x)
theorem dg_nil (x : κ) : dg ([] : List (κ × α)) x = none := rfl
theorem dg_cons (p : κ × α) (d : List (κ × α)) (x : κ) : dg (p :: d) x = if p.1 = x then some p.2 else dg d x := by
  unfold dg
  rw [List.find?_cons]
  by_cases h : p.1 = x <;> simp [h]
theorem dg_put (d : List (κ × α)) (x y : κ) (v : α) : dg (dp d x v) y = if y = x then some v else dg d y := by
  unfold dp
  induction d with
  | nil =>
    simp only [List.any_nil, Bool.false_eq_true, if_false, List.nil_append, dg_cons, dg_nil]
    by_cases h : y = x
    · simp [h]
    · rw [if_neg (fun z => h z.symm), if_neg h]
  | cons p d ih =>
    by_cases hp : p.1 = x
    · simp only [List.any_cons, hp, decide_true, Bool.true_or, if_true, List.map_cons, dg_cons]
      by_cases hy : y = x
      · simp [hy]
      · rw [if_neg (fun z => hy z.symm), if_neg hy, if_neg (fun z => hy z.symm)]
        clear ih
        induction d with
        | nil => rfl
        | cons q d ih2 =>
          rw [List.map_cons, dg_cons, dg_cons]
          by_cases hq : q.1 = x
          · rw [if_pos hq]
            simp only
            rw [if_neg (fun z => hy (z.symm.trans hq)), if_neg (fun z => hy (z.symm.trans hq)), ih2]
          · rw [if_neg hq, ih2]
    · simp only [List.any_cons, hp, decide_false, Bool.false_or]
      by_cases ha : (d.any fun p => decide (p.1 = x)) = true
      · rw [if_pos ha] at ih ⊢
        rw [List.map_cons, if_neg hp, dg_cons, dg_cons, ih]
        by_cases h1 : p.1 = y
        · rw [if_pos h1, if_pos h1, if_neg (fun z => hp (h1.trans z))]
        · rw [if_neg h1, if_neg h1]
      · rw [if_neg ha] at ih ⊢
        rw [List.cons_append, dg_cons, dg_cons, ih]
        by_cases h1 : p.1 = y
        · rw [if_pos h1, if_pos h1, if_neg (fun z => hp (h1.trans z))]
        · rw [if_neg h1, if_neg h1]
theorem dg_del (d : List (κ × α)) (x y : κ) : dg (dd d x) y = if y = x then none else dg d y := by
  unfold dd
  induction d with
  | nil => by_cases h : y = x <;> simp [h, dg_nil]
  | cons p d ih =>
    by_cases hp : p.1 = x
    · rw [List.filter_cons_of_neg (by simp [hp]), ih, dg_cons]
      by_cases h : y = x
      · rw [if_pos h, if_pos h]
      · rw [if_neg h, if_neg h, if_neg (fun z => h (z.symm.trans hp))]
    · rw [List.filter_cons_of_pos (by simp [hp]), dg_cons, dg_cons, ih]
      by_cases h1 : p.1 = y
      · rw [if_pos h1, if_pos h1, if_neg (fun z => hp (h1.trans z))]
      · rw [if_neg h1, if_neg h1]
theorem dg_mem {d : List (κ × α)} {x : κ} : (dg d x).isSome = true ↔ x ∈ d.map (·.1) := by
  induction d with
  | nil => simp [dg_nil]
  | cons p d ih =>
    rw [dg_cons, List.map_cons, List.mem_cons]
    by_cases h : p.1 = x
    · simp [h]
    · rw [if_neg h, ih]
      exact ⟨.inr, fun z => z.elim (fun z => absurd z.symm h) id⟩
theorem dg_some_mem {d : List (κ × α)} {x : κ} {v : α} (h : dg d x = some v) : (x, v) ∈ d := by
  obtain ⟨p, h1, h2⟩ := Option.map_eq_some_iff.mp h
  have := List.find?_some h1
  have e : p.1 = x := of_decide_eq_true this
  rw [← e, ← h2]
  exact List.mem_of_find?_eq_some h1
theorem dp_len (d : List (κ × α)) (x : κ) (v : α) : (dp d x v).length ≤ d.length + 1 := by
  unfold dp
  split
  · simp
  · simp
theorem dp_new {d : List (κ × α)} {x : κ} (v : α) (h : x ∉ d.map (·.1)) : dp d x v = d ++ [(x, v)] := by
  unfold dp
  rw [if_neg]
  intro z
  obtain ⟨p, hp, e⟩ := List.any_eq_true.mp z
  exact h (List.mem_map.mpr ⟨p, hp, of_decide_eq_true e⟩)
theorem dp_old {d : List (κ × α)} {x : κ} (v : α) (h : x ∈ d.map (·.1)) : dp d x v = d.map (fun p => if p.1 = x then (p.1, v) else p) := by
  unfold dp
  rw [if_pos]
  obtain ⟨p, hp, e⟩ := List.mem_map.mp h
  exact List.any_eq_true.mpr ⟨p, hp, decide_eq_true e⟩
theorem dp_keys {d : List (κ × α)} {x : κ} (v : α) : (dp d x v).map (·.1) = if x ∈ d.map (·.1) then d.map (·.1) else d.map (·.1) ++ [x] := by
  by_cases h : x ∈ d.map (·.1)
  · rw [if_pos h, dp_old v h, List.map_map]
    apply List.map_congr_left
    intro p _
    by_cases e : p.1 = x <;> simp [e]
  · rw [if_neg h, dp_new v h, List.map_append]; rfl
theorem dp_nd {d : List (κ × α)} {x : κ} (v : α) (h : (d.map (·.1)).Nodup) : ((dp d x v).map (·.1)).Nodup := by
  rw [dp_keys]
  by_cases hx : x ∈ d.map (·.1)
  · rw [if_pos hx]; exact h
  · rw [if_neg hx, List.nodup_append]
    refine ⟨h, by simp, fun a ha b hb z => ?_⟩
    rw [List.mem_singleton.mp hb] at z
    exact hx (z ▸ ha)
theorem dd_keys {d : List (κ × α)} {x : κ} : (dd d x).map (·.1) = (d.map (·.1)).filter fun y => decide (y ≠ x) := by
  unfold dd
  rw [List.filter_map]
  rfl
theorem dd_nd {d : List (κ × α)} {x : κ} (h : (d.map (·.1)).Nodup) : ((dd d x).map (·.1)).Nodup := by
  rw [dd_keys]
  exact h.filter _
end
def DkR {K : PySem.W.Frag} {κ α : Type} (f : κ → L2.Key) (E : El K α) (H : Hp) : L2.Key × V → κ × α → Prop := fun p q => p.1 = f q.1 ∧ E.P H p.2 q.2
def dk {K : PySem.W.Frag} {κ α : Type} (f : κ → L2.Key) (E : El K α) (a : Addr) (d : List (κ × α)) : HA := ⟨fun H S => (∃ kvs, H a = some (.dK kvs) ∧ All2 (DkR f E H) kvs d) ∧ ∀ b, S b ↔ b = a, fun {H H' S} ⟨⟨kvs, h, x⟩, s⟩ k => ⟨⟨kvs, k a _ h (.inl ((s a).mpr rfl)), x.imp fun _ _ z => ⟨z.1, E.st z.2 k.i⟩⟩, s⟩, fun {H S c} ⟨⟨kvs, h, x⟩, s⟩ q => by
  rw [(s c).mp q]
  exact ⟨_, h, rfl⟩⟩
section
variable {K : PySem.W.Frag} {κ α : Type} {f : κ → L2.Key} {E : El K α} {L R : List HA} {a : Addr} {d : List (κ × α)} {kvs : List (L2.Key × V)} {H : Hp} {Q : VK} {φ : Hp → Prop} {v u : V} {σ : L2.St} {ta tb tc : TE}
theorem Take.dk (t : Take (dk f E a d) L R) (h : Holds L H) : ∃ kvs, H a = some (.dK kvs) ∧ All2 (DkR f E H) kvs d := by
  obtain ⟨S, S1, S2, h1, _⟩ := t.to h
  exact h1.1
theorem Holds.dk_op (h : Holds (dk f E a d :: R) H) : ∃ kvs, Holds (pt a (.dK kvs) :: R) H ∧ All2 (DkR f E H) kvs d := by
  obtain ⟨S, S1, S2, ⟨⟨kvs, h1, h2⟩, s⟩, h3⟩ := h
  exact ⟨kvs, ⟨S, S1, S2, ⟨h1, rfl, s⟩, h3⟩, h2⟩
theorem Holds.dk_mk (h : Holds (pt a (.dK kvs) :: R) H) (e : All2 (DkR f E H) kvs d) : Holds (Toy.dk f E a d :: R) H := by
  obtain ⟨S, S1, S2, ⟨h0, _, s⟩, h2⟩ := h
  exact ⟨S, S1, S2, ⟨⟨kvs, h0, e⟩, s⟩, h2⟩
theorem dkR_upd {kvs' : List (L2.Key × V)} {o : HO} (h : Holds (pt a o :: R) H) (ho : Imm o = false) {o' : HO} (e : All2 (DkR f E H) kvs' d) : All2 (DkR f E (L2.upd H a o')) kvs' d := e.imp fun _ _ z => ⟨z.1, E.st z.2 fun b ob eb ib => by
  have n : b ≠ a := by
    rintro rfl
    rw [h.pt_get] at eb
    cases eb
    rcases ib with ib | ib
    · exact ib.elim
    · rw [ho] at ib
      cases ib
  rw [upd_ne n]
  exact eb⟩
theorem Holds.dk_upd {d' : List (κ × α)} {kvs' : List (L2.Key × V)} (h : Holds (Toy.dk f E a d :: R) H) (e : All2 (DkR f E H) kvs' d') : Holds (Toy.dk f E a d' :: R) (L2.upd H a (.dK kvs')) := by
  obtain ⟨ws, h1, _⟩ := h.dk_op
  exact (h1.upd rfl).dk_mk (dkR_upd h1 rfl e)
theorem Holds.dk_new {p : Addr} (h : Holds L H) (n : H p = none) (e : All2 (DkR f E H) kvs d) : Holds (Toy.dk f E p d :: L) (L2.upd H p (.dK kvs)) := (h.new n rfl).dk_mk (e.imp fun _ _ z => ⟨z.1, E.st z.2 (keepI_new n)⟩)
theorem take_dk0 (t : Take (pt a (.dK [])) L R) : Take (Toy.dk f E a []) L R := Sub.trans t fun H S ⟨S1, S2, ⟨h, i, s⟩, h2, hd, hs⟩ => ⟨S, ⟨S1, S2, ⟨⟨[], h, .nil⟩, s⟩, h2, hd, hs⟩, fun _ q => q⟩
variable [DecidableEq κ]
theorem dkR_val (hf : ∀ x y, f x = f y → x = y) (h : All2 (DkR f E H) kvs d) (x : κ) : (∀ w, dg d x = some w → ∃ v, valV kvs (f x) = some v ∧ E.P H v w) ∧ (dg d x = none → valV kvs (f x) = none) := by
  induction h with
  | nil => exact ⟨fun w e => (by cases e), fun _ => rfl⟩
  | cons hp ht ih =>
    rename_i p q ps qs
    rw [dg_cons]
    by_cases e : q.1 = x
    · rw [if_pos e, valV_pos (by rw [hp.1, e])]
      exact ⟨fun w ew => ⟨_, rfl, by cases ew; exact hp.2⟩, fun z => (by cases z)⟩
    · rw [if_neg e, valV_neg (fun z => e (hf _ _ (hp.1.symm.trans z)))]
      exact ih
theorem dkR_any (hf : ∀ x y, f x = f y → x = y) (h : All2 (DkR f E H) kvs d) (x : κ) : (kvs.any fun kv => decide (kv.1 = f x)) = d.any fun p => decide (p.1 = x) := by
  induction h with
  | nil => rfl
  | cons hp ht ih =>
    rename_i p q ps qs
    rw [List.any_cons, List.any_cons, ih]
    congr 1
    rw [hp.1]
    by_cases e : q.1 = x
    · rw [e]; simp
    · rw [decide_eq_false e, decide_eq_false fun z => e (hf _ _ z)]
theorem dkR_put (hf : ∀ x y, f x = f y → x = y) (h : All2 (DkR f E H) kvs d) (x : κ) {w : α} (hv : E.P H v w) : All2 (DkR f E H) (putK kvs (f x) v) (dp d x w) := by
  unfold putK dp
  rw [dkR_any hf h x]
  split
  · rename_i hc
    clear hc
    induction h with
    | nil => exact .nil
    | cons hp ht ih =>
      rename_i p q ps qs
      rw [List.map_cons, List.map_cons]
      refine .cons ?_ ih
      by_cases e : q.1 = x
      · rw [if_pos e, if_pos (by rw [hp.1, e])]
        exact ⟨hp.1, hv⟩
      · rw [if_neg e, if_neg (fun z => e (hf _ _ (hp.1.symm.trans z)))]
        exact hp
  · exact h.app (.one ⟨rfl, hv⟩)
theorem dkR_drop (hf : ∀ x y, f x = f y → x = y) (h : All2 (DkR f E H) kvs d) (x : κ) : All2 (DkR f E H) (dropK kvs (f x)) (dd d x) := by
  unfold dropK dd
  induction h with
  | nil => exact .nil
  | cons hp ht ih =>
    rename_i p q ps qs
    by_cases e : q.1 = x
    · rw [List.filter_cons_of_neg (by simp [hp.1, e]), List.filter_cons_of_neg (by simp [e])]
      exact ih
    · rw [List.filter_cons_of_pos (by simpa using fun z => e (hf _ _ (hp.1.symm.trans z))), List.filter_cons_of_pos (by simpa using e)]
      exact .cons hp ih
end
abbrev fI : Int → L2.Key := Sum.inl
abbrev fS : Str → L2.Key := Sum.inr
theorem fI_inj : ∀ x y, fI x = fI y → x = y := fun _ _ h => Sum.inl.inj h
theorem fS_inj : ∀ x y, fS x = fS y → x = y := fun _ _ h => Sum.inr.inj h
def kDGet (Q : VK) (x y : V) (H : Hp) : Prop := ∃ a v, x = .ref a ∧ DGet H a y (some v) ∧ Q v H
def kDPut (φ : Hp → Prop) (x y v : V) (H : Hp) : Prop := ∃ a H4, x = .ref a ∧ DPut H a y v H4 ∧ φ H4
def kDp0 (ty : TE) (σ : L2.St) (Q : VK) (x : V) (H : Hp) : Prop := ∃ a, x = .ref a ∧ IsD H a ∧ ty σ H fun y H2 => ∃ kvs k v, H2 a = some (.dK kvs) ∧ y = kV k ∧ valV kvs k = some v ∧ Q v (L2.upd H2 a (.dK (dropK kvs k)))
def kDPop (Q : VK) (a : Addr) (y : V) (H2 : Hp) : Prop := ∃ kvs k v, H2 a = some (.dK kvs) ∧ y = kV k ∧ valV kvs k = some v ∧ Q v (L2.upd H2 a (.dK (dropK kvs k)))
def kDg2 (ty tx : TE) (σ : L2.St) (Q : VK) (x : V) (H : Hp) : Prop := ∃ a, x = .ref a ∧ IsD H a ∧ ty σ H fun y H2 => tx σ H2 fun z H3 => ∃ o, DGet H3 a y o ∧ Q (o.getD z) H3
def kDGD (Q : VK) (a : Addr) (y z : V) (H3 : Hp) : Prop := ∃ o, DGet H3 a y o ∧ Q (o.getD z) H3
def rLenDk : List V → Hp → VK → Prop := fun xs H Q => ∃ a kvs, xs = [V.ref a] ∧ H a = some (.dK kvs) ∧ Q (.int kvs.length) H
theorem call_lenDk {X : Cx} : CallR X (.builtin "len") rLenDk := call_lenD
def rListDk : List V → Hp → VK → Prop := fun xs H Q => ∃ p kvs, xs = [.ref p] ∧ H p = some (.dK kvs) ∧ ∀ q, H q = none → Q (.ref q) (L2.upd H q (.lst (kvs.map fun kv => kV kv.1)))
theorem call_listDk {X : Cx} (hc : X.calm = true := by rfl) : CallR X (.type "list") rListDk := call_list_dK hc
def rSortDk : List V → Hp → VK → Prop := fun xs H Q => ∃ (a : Addr) (kvs : List (L2.Key × V)) (ks : List Int), xs = [.ref a] ∧ Rd H a (.dK kvs) ∧ kvs.map (·.1) = ks.map Sum.inl ∧ ks.length < 64 ∧ ∀ (ys : List Int) (p : Addr), ys.Perm ks → ys.Pairwise (· ≤ ·) → H p = none → Q (.ref p) (L2.upd H p (.lst (ys.map V.int)))
theorem call_sortDk {X : Cx} (hc : X.calm = true := by rfl) : CallR X (.builtin "sorted") rSortDk := call_sortedDI hc
section
variable {K : PySem.W.Frag} {α : Type} {E : El K α} {L R : List HA} {a : Addr} {Q : VK} {φ : Hp → Prop} {v u x y : V} {σ : L2.St} {td ty tv tx : TE} {nx bk ct : L2.St → Hp → Prop} {rt : VK}
theorem e_dnew (q : ∀ p, Ent (pt p (.dK []) :: L) (Q (.ref p))) : Ent L fun H => tDNewK σ H Q := fun H h p np => q p _ (h.new np rfl)
theorem e_dget0 (q : Ent L fun H => td σ H fun x H1 => ty σ H1 fun y H2 => kDGet Q x y H2) : Ent L fun H => tDGet td ty σ H Q := q
theorem e_dput0 (q : Ent L fun H => tv σ H fun v H1 => td σ H1 fun x H2 => ty σ H2 fun y H3 => kDPut (nx σ) x y v H3) : Ent L fun H => sDPut td ty tv ⟨nx, rt, bk, ct⟩ σ H := q
theorem e_dpop0 (q : Ent L fun H => td σ H fun x H1 => kDp0 ty σ Q x H1) : Ent L fun H => tDPop1 td ty σ H Q := q
theorem e_dg20 (q : Ent L fun H => td σ H fun x H1 => kDg2 ty tx σ Q x H1) : Ent L fun H => tDGet2 td ty tx σ H Q := q
theorem c_dp0 {κ : Type} {f : κ → L2.Key} {d : List (κ × α)} (t : Take (dk f E a d) L R) (q : Ent L fun H => ty σ H fun y H2 => kDPop Q a y H2) : Ent L fun H => kDp0 ty σ Q (.ref a) H := fun H h => by
  obtain ⟨kvs, h1, _⟩ := t.dk h
  exact ⟨a, rfl, .inl ⟨kvs, .inl h1⟩, q H h⟩
theorem c_dg20 {κ : Type} {f : κ → L2.Key} {d : List (κ × α)} (t : Take (dk f E a d) L R) (q : Ent L fun H => ty σ H fun y H2 => tx σ H2 fun z H3 => kDGD Q a y z H3) : Ent L fun H => kDg2 ty tx σ Q (.ref a) H := fun H h => by
  obtain ⟨kvs, h1, _⟩ := t.dk h
  exact ⟨a, rfl, .inl ⟨kvs, .inl h1⟩, q H h⟩
theorem c_lenDk {κ : Type} {f : κ → L2.Key} {d : List (κ × α)} (t : Take (dk f E a d) L R) (q : Ent L (Q (.int d.length))) : Ent L fun H => rLenDk [.ref a] H Q := fun H h => by
  obtain ⟨kvs, h1, h2⟩ := t.dk h
  exact ⟨a, kvs, rfl, h1, by rw [h2.len]; exact q H h⟩
theorem c_dictCp {κ : Type} {f : κ → L2.Key} {d : List (κ × α)} (t : Take (dk f E a d) L R) (q : ∀ p, Ent (dk f E p d :: L) (Q (.ref p))) : Ent L fun H => rDictCp [.ref a] H Q := fun H h => by
  obtain ⟨kvs, h1, h2⟩ := t.dk h
  exact ⟨a, kvs, rfl, h1, fun p np => q p _ (h.dk_new np h2)⟩
theorem c_dgetI {d : List (Int × α)} {i : Int} {k : α → Prop} (hm : obx (dg d i) k) (t : Take (dk fI E a d) L R) (q : ∀ w, k w → ∀ v, Ent (vl E v w :: L) (Q v)) : Ent L fun H => kDGet Q (.ref a) (.int i) H := fun H h => by
  obtain ⟨w, e, hk⟩ := hm
  obtain ⟨kvs, h1, h2⟩ := t.dk h
  obtain ⟨v, e2, hp⟩ := (dkR_val fI_inj h2 i).1 w e
  refine ⟨a, v, rfl, ?_, q w hk v H (h.vl hp)⟩
  have := DGet.k (k := fI i) h1
  rw [e2] at this
  exact this
theorem c_dputI {d : List (Int × α)} {i : Int} {w : α} {k : Prop} (hm : grd (d.length ≤ 100000) k) (t : Take (dk fI E a d) L R) (hv : Is E L v w) (q : k → Ent (dk fI E a (dp d i w) :: R) φ) : Ent L fun H => kDPut φ (.ref a) (.int i) v H := fun H h => by
  obtain ⟨kvs, h1, h2⟩ := t.dk h
  refine ⟨a, _, rfl, DPut.k (k := fI i) h1 (by rw [h2.len]; exact Nat.lt_of_le_of_lt hm.1 (by decide)), q hm.2 _ ?_⟩
  exact (t.to h).dk_upd (dkR_put fI_inj h2 i (hv H h))
theorem c_inIDk {d : List (Int × α)} {i : Int} (t : Take (dk fI E a d) L R) (q : Ent L (Q (.bl (dg d i).isSome))) : Ent L fun H => rInDk (.int i) (.ref a) H Q := fun H h => by
  obtain ⟨kvs, h1, h2⟩ := t.dk h
  refine ⟨a, _, rfl, DGet.k (k := fI i) h1, ?_⟩
  have e : (valV kvs (fI i)).isSome = (dg d i).isSome := by
    have z := dkR_val fI_inj h2 i
    cases o : dg d i with
    | none => rw [z.2 o]; rfl
    | some w => obtain ⟨v, e, _⟩ := z.1 w o; rw [e]; rfl
  rw [e]
  exact q H h
theorem c_niIDk {d : List (Int × α)} {i : Int} (t : Take (dk fI E a d) L R) (q : Ent L (Q (.bl (!(dg d i).isSome)))) : Ent L fun H => rNiDk (.int i) (.ref a) H Q := fun H h => by
  obtain ⟨kvs, h1, h2⟩ := t.dk h
  refine ⟨a, _, rfl, DGet.k (k := fI i) h1, ?_⟩
  have e : (valV kvs (fI i)).isSome = (dg d i).isSome := by
    have z := dkR_val fI_inj h2 i
    cases o : dg d i with
    | none => rw [z.2 o]; rfl
    | some w => obtain ⟨v, e, _⟩ := z.1 w o; rw [e]; rfl
  rw [e]
  exact q H h
theorem c_dpopI {d : List (Int × α)} {i : Int} {k : α → Prop} (hm : obx (dg d i) k) (t : Take (dk fI E a d) L R) (q : ∀ w, k w → ∀ v, Ent (vl E v w :: dk fI E a (dd d i) :: R) (Q v)) : Ent L fun H => kDPop Q a (.int i) H := fun H h => by
  obtain ⟨w, e, hk⟩ := hm
  obtain ⟨kvs, h1, h2⟩ := t.dk h
  obtain ⟨v, e2, hp⟩ := (dkR_val fI_inj h2 i).1 w e
  refine ⟨kvs, fI i, v, h1, rfl, e2, q w hk v _ ?_⟩
  have h3 := (t.to h).dk_upd (dkR_drop fI_inj h2 i)
  refine h3.vl (E.st hp fun b ob eb ib => ?_)
  have n : b ≠ a := by
    rintro rfl
    rw [h1] at eb
    cases eb
    rcases ib with ib | ib
    · exact ib.elim
    · cases ib
  rw [upd_ne n]
  exact eb
theorem c_dgdI {d : List (Int × α)} {i : Int} {w : α} (t : Take (dk fI E a d) L R) (hv : Is E L v w) (q : ∀ u, Ent (vl E u ((dg d i).getD w) :: L) (Q u)) : Ent L fun H => kDGD Q a (.int i) v H := fun H h => by
  obtain ⟨kvs, h1, h2⟩ := t.dk h
  refine ⟨_, DGet.k (k := fI i) h1, q _ H (h.vl ?_)⟩
  have z := dkR_val fI_inj h2 i
  cases o : dg d i with
  | none => rw [z.2 o]; exact hv H h
  | some w' => obtain ⟨u, e, hp⟩ := z.1 w' o; rw [e]; exact hp
theorem c_dgetS {d : List (Str × α)} {i : Str} {k : α → Prop} (hm : obx (dg d i) k) (t : Take (dk fS E a d) L R) (q : ∀ w, k w → ∀ v, Ent (vl E v w :: L) (Q v)) : Ent L fun H => kDGet Q (.ref a) (.str i) H := fun H h => by
  obtain ⟨w, e, hk⟩ := hm
  obtain ⟨kvs, h1, h2⟩ := t.dk h
  obtain ⟨v, e2, hp⟩ := (dkR_val fS_inj h2 i).1 w e
  refine ⟨a, v, rfl, ?_, q w hk v H (h.vl hp)⟩
  have := DGet.k (k := fS i) h1
  rw [e2] at this
  exact this
theorem c_dputS {d : List (Str × α)} {i : Str} {w : α} {k : Prop} (hm : grd (d.length ≤ 100000) k) (t : Take (dk fS E a d) L R) (hv : Is E L v w) (q : k → Ent (dk fS E a (dp d i w) :: R) φ) : Ent L fun H => kDPut φ (.ref a) (.str i) v H := fun H h => by
  obtain ⟨kvs, h1, h2⟩ := t.dk h
  refine ⟨a, _, rfl, DPut.k (k := fS i) h1 (by rw [h2.len]; exact Nat.lt_of_le_of_lt hm.1 (by decide)), q hm.2 _ ?_⟩
  exact (t.to h).dk_upd (dkR_put fS_inj h2 i (hv H h))
theorem c_inSDk {d : List (Str × α)} {i : Str} (t : Take (dk fS E a d) L R) (q : Ent L (Q (.bl (dg d i).isSome))) : Ent L fun H => rInDk (.str i) (.ref a) H Q := fun H h => by
  obtain ⟨kvs, h1, h2⟩ := t.dk h
  refine ⟨a, _, rfl, DGet.k (k := fS i) h1, ?_⟩
  have e : (valV kvs (fS i)).isSome = (dg d i).isSome := by
    have z := dkR_val fS_inj h2 i
    cases o : dg d i with
    | none => rw [z.2 o]; rfl
    | some w => obtain ⟨v, e, _⟩ := z.1 w o; rw [e]; rfl
  rw [e]
  exact q H h
theorem c_niSDk {d : List (Str × α)} {i : Str} (t : Take (dk fS E a d) L R) (q : Ent L (Q (.bl (!(dg d i).isSome)))) : Ent L fun H => rNiDk (.str i) (.ref a) H Q := fun H h => by
  obtain ⟨kvs, h1, h2⟩ := t.dk h
  refine ⟨a, _, rfl, DGet.k (k := fS i) h1, ?_⟩
  have e : (valV kvs (fS i)).isSome = (dg d i).isSome := by
    have z := dkR_val fS_inj h2 i
    cases o : dg d i with
    | none => rw [z.2 o]; rfl
    | some w => obtain ⟨v, e, _⟩ := z.1 w o; rw [e]; rfl
  rw [e]
  exact q H h
theorem c_dpopS {d : List (Str × α)} {i : Str} {k : α → Prop} (hm : obx (dg d i) k) (t : Take (dk fS E a d) L R) (q : ∀ w, k w → ∀ v, Ent (vl E v w :: dk fS E a (dd d i) :: R) (Q v)) : Ent L fun H => kDPop Q a (.str i) H := fun H h => by
  obtain ⟨w, e, hk⟩ := hm
  obtain ⟨kvs, h1, h2⟩ := t.dk h
  obtain ⟨v, e2, hp⟩ := (dkR_val fS_inj h2 i).1 w e
  refine ⟨kvs, fS i, v, h1, rfl, e2, q w hk v _ ?_⟩
  have h3 := (t.to h).dk_upd (dkR_drop fS_inj h2 i)
  refine h3.vl (E.st hp fun b ob eb ib => ?_)
  have n : b ≠ a := by
    rintro rfl
    rw [h1] at eb
    cases eb
    rcases ib with ib | ib
    · exact ib.elim
    · cases ib
  rw [upd_ne n]
  exact eb
theorem c_dgdS {d : List (Str × α)} {i : Str} {w : α} (t : Take (dk fS E a d) L R) (hv : Is E L v w) (q : ∀ u, Ent (vl E u ((dg d i).getD w) :: L) (Q u)) : Ent L fun H => kDGD Q a (.str i) v H := fun H h => by
  obtain ⟨kvs, h1, h2⟩ := t.dk h
  refine ⟨_, DGet.k (k := fS i) h1, q _ H (h.vl ?_)⟩
  have z := dkR_val fS_inj h2 i
  cases o : dg d i with
  | none => rw [z.2 o]; exact hv H h
  | some w' => obtain ⟨u, e, hp⟩ := z.1 w' o; rw [e]; exact hp
theorem keysI {H : Hp} {kvs : List (L2.Key × V)} {d : List (Int × α)} (h : All2 (DkR fI E H) kvs d) : kvs.map (·.1) = (d.map (·.1)).map Sum.inl := by
  induction h with
  | nil => rfl
  | cons hp ht ih => rw [List.map_cons, List.map_cons, List.map_cons, ih, hp.1]
theorem c_listDkI {d : List (Int × α)} (t : Take (dk fI E a d) L R) (q : ∀ p, Ent (ls (kI (K := K)) p (d.map (·.1)) :: L) (Q (.ref p))) : Ent L fun H => rListDk [.ref a] H Q := fun H h => by
  obtain ⟨kvs, h1, h2⟩ := t.dk h
  refine ⟨a, kvs, rfl, h1, fun p np => q p _ ?_⟩
  have e : (kvs.map fun kv => kV kv.1) = (d.map (·.1)).map V.int := by
    rw [show (kvs.map fun kv => kV kv.1) = (kvs.map (·.1)).map kV by rw [List.map_map]; rfl, keysI h2, List.map_map]
    rfl
  rw [e]
  exact h.ls_new np (All2.map V.int fun _ _ => rfl)
theorem c_sortDkI {d : List (Int × α)} {k : Prop} (hm : grd (d.length < 64) k) (t : Take (dk fI E a d) L R) (q : k → ∀ p, Ent (ls (kI (K := K)) p (srt (d.map (·.1))) :: L) (Q (.ref p))) : Ent L fun H => rSortDk [.ref a] H Q := fun H h => by
  obtain ⟨kvs, h1, h2⟩ := t.dk h
  refine ⟨a, kvs, d.map (·.1), rfl, .inl h1, keysI h2, by rw [List.length_map]; exact hm.1, fun ys p hp hs np => q hm.2 p _ ?_⟩
  rw [srt_eq hp hs]
  exact h.ls_new np (All2.map V.int fun _ _ => rfl)
end
/-! ## a comprehension that changes one thing -/
def lcM {α β M : Type} : List α → List β → M → (α → M → (Option β → M → Prop) → Prop) → (List β → M → Prop) → Prop
  | [], acc, m, _, k => k acc m
  | x :: xs, acc, m, b, k => b x m fun o m' => lcM xs (acc ++ o.toList) m' b k
section
variable {K : PySem.W.Frag} {α β M : Type} {L R R' : List HA} {σ : L2.St} {Q : VK} {E : El K α} {l ad : Addr}
theorem c_lcLsM {xs : List α} {m0 : M} {bd : α → M → (Option β → M → Prop) → Prop} {k : List β → M → Prop} {g : TG} {tt : TT} {te : TE} {vs : List Nat} (A : Addr → M → HA) (E' : El K β) (hm : grd (xs.length ≤ 100000) (lcM xs [] m0 bd k)) (t0 : Take (A ad m0) L R) (t : Take (ls E l xs) R R')
    (step : ∀ x m (nxt : Option β → M → Prop), bd x m nxt → ∀ v D ys (r : VK) (s : Hp → Prop), (∀ v' y m', nxt (some y) m' → Ent (vl E' v' y :: ls E' D ys :: A ad m' :: R) (r v')) → (∀ m', nxt none m' → Ent (ls E' D ys :: A ad m' :: R) s) → Ent (vl E v x :: ls E' D ys :: A ad m :: R) fun H => g v (wipe σ vs) H fun σ2 H2 => wipe σ2 vs = wipe σ vs ∧ tt σ2 H2 fun b H3 => if b = true then te σ2 H3 r else s H3)
    (q : ∀ ys m', k ys m' → ∀ D, Ent (ls E' D ys :: A ad m' :: R) (Q (.ref D))) : Ent L fun H => kLc K g tt te vs σ Q (.ref l) H := fun H h => by
  obtain ⟨hz, hm⟩ := hm
  have h := t0.to h
  have ht : ∀ {m : M} {H : Hp}, Holds (A ad m :: R) H → ∃ vs, H l = some (.lst vs) ∧ All2 (E.P H) vs xs := fun p => t.ls (Sub.to (Sub.drop Sub.refl) p)
  obtain ⟨ws, h1, h2⟩ := ht h
  refine ⟨l, rfl, ⟨ws, SqL.of h1⟩, fun D nD => ?_⟩
  refine lc_it (walk_ls (E := E) l xs) (fun i H' => ∃ ys m, lcM (xs.drop i) ys m bd k ∧ i ≤ xs.length ∧ ys.length ≤ i ∧ Holds (ls E' D ys :: A ad m :: R) H') ⟨[], m0, hm, Nat.zero_le _, Nat.le_refl _, h.ls_new nD .nil⟩ (fun i H' _ ⟨ys, m, _, _, _, p⟩ => ht (Sub.to (Sub.drop Sub.refl) p)) (fun i v H' H'' hi ⟨ys, m, hf, _, hy, p⟩ ⟨e, x, hx, hp⟩ => ?_) (fun H' ⟨ys, m, hf, _, _, p⟩ => q ys m (by rw [List.drop_length] at hf; exact hf) D H' p)
  subst e
  have ed : xs.drop i = x :: xs.drop (i + 1) := by
    rw [List.drop_eq_getElem_cons hi]
    congr 1
    exact Option.some.inj ((List.getElem?_eq_getElem hi).symm.trans hx)
  rw [ed, lcM] at hf
  refine step x m _ hf v D ys _ _ (fun v' y m' hy' H4 z => ?_) (fun m' hn H3 z => ?_) _ (p.vl hp)
  · obtain ⟨ac, z1, z2⟩ := Holds.ls_op (Sub.to (Sub.drop Sub.refl) z)
    have z3 : E'.P H4 v' y := Take.vl take_here z
    refine ⟨ac, z1.pt_get, ?_, ys ++ [y], m', hy', hi, by simp; omega, Holds.ls_upd (Sub.to (Sub.drop Sub.refl) z) (z2.app (.one z3))⟩
    rw [z2.len]
    exact Nat.lt_of_le_of_lt (by omega : ys.length ≤ 100000) (by decide : 100000 < sizeLine)
  · exact ⟨ys, m', by simpa using hn, hi, by omega, z⟩
end
end Toy
namespace Toy
open PySem L2 PySem.Spec PyProof.Rows
/-! ## x != y by x's own __eq__, there being no __ne__ -/
section
open PySem.SeqAt Builtin
variable {M : Model} {prog : Program} {w : World} {A : Around} {E : Value → Shared → Prop} {s : Shared} {K : PySem.W.Frag} {x C f : Addr} {ox : Obj} {od : Option Obj} {b tb : Value} {h₀ : Heap} {L : Addr} {m : Str → Option Value}
theorem ifBound_objNe {args : List Value} {Q : Option Value → Shared → Prop} (X : K.In s.heap) (I : PySem.W.InstAt s.heap x ox C od) (hs : PySem.W.findIn K (.ref C) "__ne__" = some (some (.builtin "object.__ne__")))
    (h : wpAny M A (call (.builtin "object.__ne__") (.ref x :: args)) (fun v => Q (some v)) E s) : wpAny M A (callSpecialIfBound? (.ref x) "__ne__" args) Q E s := by
  simp only [callSpecialIfBound?, bindSpecialIfBound?]
  refine wpAny_holding (wpAny_bind (wpAny_bind (wpAny_bind (I.type.here ((PySem.W.looks_findIn X hs).here ?_)))))
  refine wpAny_bind (wpAny_askSetting (wpAny_ite ?_))
  have fin : wpAny M A (call (.builtin "object.__ne__") ([.ref x] ++ args) >>= fun v => pure (some v)) Q E s := wpAny_bind (wpAny_mono h (fun v s' h' => wpAny_pure h') fun _ _ h' => h')
  split
  · exact wpAny_bind (wpAny_of_eq (F.cmp_object.ne.bind _) (wpAny_pure (by exact fin)))
  · exact wpAny_tryCatch (wpAny_bind (wpAny_of_eq (F.cmp_object.ne.bind _) (wpAny_pure (by exact fin))))
theorem entry_ne {Q : Fin → Shared → Prop} (hu : A.units < cLine) (X : K.In s.heap) (I : PySem.W.InstAt s.heap x ox C od) (he : PySem.W.findIn K (.ref C) "__eq__" = some (some (.ref f))) (hf : PySem.W.isFn K (.ref f) = true)
    (h : wpAny (model prog w) A (call (.ref f) [.ref x, b]) (fun v s' => ∃ c, v = .bool c ∧ Q (.done (.ret (.bool (!c)))) s') E s) : wpAny (model prog w) A (Builtin.«object.__ne__» ⟨[.ref x, b], []⟩) Q E s := by
  unfold Builtin.«object.__ne__»
  repeat (first
    | with_reducible refine wpAny_cRoomFor hu ?_
    | (refine wpAny_bind (m := callSpecialIfBound? (.ref x) (Str.ofString "__eq__") [b])
        (PySem.W.ifBound_K X I he hf (wpAny_mono h (fun r s' hr => by
          obtain ⟨c, rfl, hq⟩ := hr
          repeat (first | exact hq | exact wpAny_pure hq | exact wpAny_truthy_bool hq | (refine wpAny_bind (m := truthy (.bool _)) (wpAny_truthy_bool ?_)) | wp_step)) fun _ _ e => e)))
    | wp_step)
theorem call_objNe {Q : Value → Shared → Prop} (hu : A.units + 1 < cLine) (X : K.In s.heap) (I : PySem.W.InstAt s.heap x ox C od) (hm : PySem.W.mroIn K C (.type "object") = some true) (he : PySem.W.findIn K (.ref C) "__eq__" = some (some (.ref f))) (hf : PySem.W.isFn K (.ref f) = true)
    (h : wpAny (model prog w) A.in1 (call (.ref f) [.ref x, b]) (fun v s' => ∃ c, v = .bool c ∧ Q (.bool (!c)) s') E s) : wpAny (model prog w) A (call (.builtin "object.__ne__") [.ref x, b]) Q E s :=
  wpAny_call (codeAny_call_builtin F.cmp_object.ne.plain F.cmpEntry_ne (PySem.W.check_slot F.cmpKind_ne F.cmpSplit_ne (I.type.andThen (PySem.W.looks_mroIn X hm)) (F.cmpArgs_ne _ _) (entry_ne (A := A.in1) hu X I he hf (wpAny_mono h (fun v s' ⟨c, e, q⟩ => ⟨c, e, q⟩) fun _ _ e => e))))
theorem cmpNe_K {Q : Value → Shared → Prop} (hu : A.units + 1 < cLine) (X : K.In s.heap) (I : PySem.W.InstAt s.heap x ox C od) (hb : PySem.W.Looks (model prog w) s.heap (typeOf b) tb) (hn : PySem.W.notFirst K C tb = true)
    (hs : PySem.W.findIn K (.ref C) "__ne__" = some (some (.builtin "object.__ne__"))) (hm : PySem.W.mroIn K C (.type "object") = some true) (he : PySem.W.findIn K (.ref C) "__eq__" = some (some (.ref f))) (hf : PySem.W.isFn K (.ref f) = true)
    (h : wpAny (model prog w) A.in1 (call (.ref f) [.ref x, b]) (fun v s' => ∃ c, v = .bool c ∧ Q (.bool (!c)) s') E s) : wpAny (model prog w) A (richCompare .NotEq (.ref x) b) Q E s := by
  have one : wpAny (model prog w) A (tryCompare (.ref x) (cmpInfo .NotEq).2.1 b) (fun r s' => ∃ v, r = some v ∧ Q v s') E s := by
    unfold tryCompare
    refine wpAny_bind (ifBound_objNe X I hs (call_objNe hu X I hm he hf (wpAny_mono h (fun v s' hv => ?_) fun _ _ e => e)))
    obtain ⟨c, e, hq⟩ := hv
    exact ⟨c, e, wpAny_pure ⟨_, rfl, hq⟩⟩
  unfold richCompare
  simp only [oneThing_ref]
  refine wpAny_holding (wpAny_bind (wpAny_cRoomFor (Nat.lt_of_succ_lt hu) ?_))
  refine wpAny_bind (I.type.here (wpAny_bind (hb.here ?_)))
  split
  · rename_i q
    have e : PySem.W.subIn K tb (.ref C) = some false := by
      rcases Bool.or_eq_true_iff.mp hn with e | e
      · rw [beq_iff_eq.mp e] at q; simp at q
      · exact beq_iff_eq.mp e
    refine wpAny_bind ((PySem.W.looks_subIn X e).here ?_)
    simp only [Bool.false_eq_true, if_false]
    refine wpAny_bind (wpAny_mono one (fun r s' z => ?_) fun _ _ e => e)
    obtain ⟨v, rfl, hq⟩ := z
    exact wpAny_pure hq
  · refine wpAny_bind (wpAny_pure ?_)
    simp only [Bool.false_eq_true, if_false]
    refine wpAny_bind (wpAny_mono one (fun r s' z => ?_) fun _ _ e => e)
    obtain ⟨v, rfl, hq⟩ := z
    exact wpAny_pure hq
end
structure NeC (K : PySem.W.Frag) (C : Addr) : Prop where
  at_ : PySem.W.findIn K (.ref C) "__ne__" = some (some (.builtin "object.__ne__"))
  mro : PySem.W.mroIn K C (.type "object") = some true
def rOwnNe (K : PySem.W.Frag) (C : Addr) (sp : Sp) (E : XK) : R2 := fun x y H Q => ∃ (a dx : Addr) (fs : List (Str × V)) (t : Value), x = .ref a ∧ H a = some (.ins C dx fs) ∧ TyX K H y t ∧ PySem.W.notFirst K C t = true ∧ sp [x, y] H (fun v H' => ∃ b, v = .bl b ∧ Q (.bl (!b)) H') E
theorem op_ownNe {X : Cx} {CX : CXT} {n : Nat} {C f : Addr} {fd : FuncData} {ps : List Str} {sp : Sp} {E : XK} (F : FnOk X.prog X.w X.K X.mg X.base CX n f fd ps sp) (q : EqC X.K C f) (ne : NeC X.K C) (hr : Room (n + 1) X.A) (hb : Binds X.K fd ps []) (hx : Passes CX X E) : OpR X (compareOp .NotEq) (rOwnNe X.K C sp E) := by
  intro pins s σ H x y v u Q I rx ry h
  obtain ⟨a, dx, fs, t, rfl, ha, ty, hn, hsp⟩ := h
  show wpAny (model X.prog X.w) X.A (richCompare .NotEq v u) (EP X pins σ Q) X.xe s
  obtain rfl : v = Value.ref a := rx
  obtain ⟨mA, J, _⟩ := ins_get I.hok ha
  obtain ⟨od, J, _⟩ := J.look
  obtain ⟨P, Z, p, _⟩ := kit_of I ry ty
  refine cmpNe_K (tb := t) hr.units1 I.kIn J (Z.ty _ _ I.kIn p) hn ne.at_ ne.mro q.at_ q.fn ?_
  have hl := F.len _ _ _ _ hsp
  have r2 : Vals [V.ref a, y] [Value.ref a, u] := .cons rfl (.cons ry .nil)
  refine wpAny_call (codeAny_mono (F.run X.A.in1 X.stack s H ⟨[.ref a, u], []⟩ [.ref a, u] [.ref a, y] _ E hr.in1 I.env0.in1 (by
    have h2 := hb s [.ref a, u] I.kIn (by simpa using hl)
    simpa using h2) r2 hsp) fun r s' hq => ?_)
  cases r with
  | error e => exact hx pins σ H s e s' I hq
  | ok fl =>
    cases fl with
    | ret w =>
      obtain ⟨z, H', I', rz, ⟨b, ez, q⟩⟩ := I.after hq
      subst ez
      cases rz
      exact ⟨b, rfl, .bl (!b), H', I', rfl, q⟩
    | next => exact False.elim hq
    | brk => exact False.elim hq
    | cont => exact False.elim hq
section
variable {K : PySem.W.Frag} {L : List HA} {Q : VK} {a C : Addr} {y : V} {α : Type} {E : El K α} {l : Addr} {xs : List α} {R : List HA}
theorem e_ownNe {sp : Sp} {E : XK} {t : Value} (h : ∀ H, Holds L H → ∃ dx fs, H a = some (.ins C dx fs)) (ht : ∀ H, Holds L H → TyX K H y t) (hn : PySem.W.notFirst K C t = true) (q : Ent L fun H => sp [.ref a, y] H (fun v H' => ∃ b, v = .bl b ∧ Q (.bl (!b)) H') E) : Ent L fun H => rOwnNe K C sp E (.ref a) y H Q := fun H k => by
  obtain ⟨dx, fs, e⟩ := h H k
  exact ⟨a, dx, fs, t, rfl, e, ht H k, hn, q H k⟩
theorem ty_ls (t : Take (ls E l xs) L R) : ∀ H, Holds L H → TyX K H (.ref l) (.type "list") := fun H h => by
  obtain ⟨vs, h1, _⟩ := t.ls h
  exact ty_sqL (SqL.of h1)
end
end Toy
namespace Toy
open PySem L2 PySem.Spec PyProof.Rows
/-! ## xs[:] = ys -/
section
variable {prog : Program} {w : World} {A : Around} {E : Value → Shared → Prop} {s : Shared}
theorem bounds_all {n : Nat} : sliceBounds none none none n = (0, (n : Int), 1) := by
  simp [sliceBounds]
theorem setItem_all {l b sl : Addr} {items new : Array Value} {n n2 : Nat} {Q : Unit → Shared → Prop}
    (e : s.heap.get? l = some { cls := .type "list", data := .seq items n }) (e2 : s.heap.get? b = some { cls := .type "list", data := .seq new n2 }) (hne : l ≠ b)
    (hs : s.heap.IsSliceOf sl .none .none .none)
    (hsz : items.size + new.size ≤ sizeLine) (h : Q () { s with heap := s.heap.update l (Obj.mapSeq fun xs => xs.extract 0 0 ++ new ++ xs.extract items.size xs.size) }) :
    wpAny (model prog w) A (setItem (.ref l) (.ref sl) (.ref b)) Q E s := by
  have hl : s.heap.IsList l items := PySem.IsL.isList e
  have hb : s.heap.IsList b new := PySem.IsL.isList e2
  obtain ⟨os, hos, hcs, hds⟩ := id hs
  have hTs : s.TypeIs (.ref sl) "slice" := ⟨os, hos, hcs⟩
  have hstep : ¬ ((rawPart none == rawInt 0) = true) := Bool.false_ne_true
  have hsame : Builtin.List.listSameRef (.ref l) (.ref b) = false := by
    unfold Builtin.List.listSameRef
    exact beq_eq_false_iff_ne.mpr hne
  have hmax : (max (0 : Int) (items.size : Int)).toNat = items.size := by omega
  have hz' : ((fun xs : Array Value => xs.extract 0 0 ++ new ++ xs.extract items.size xs.size) items).size ≤ sizeLine + 1 := by
    simp only [Array.size_append, Array.size_extract]
    omega
  unfold setItem
  try with_reducible refine wpAny_holding ?_
  first | refine wpAny_bind (wpAny_pure ?_) | skip
  refine wpAny_bind (wpAny_sequenceKey hl.typeIs (by decide) ?_)
  refine wpAny_bind (wpAny_callSpecial?_slot (name := Str.ofString "__setitem__") hl.typeIs slot_list_setitem
    (wpAny_call_entry slot_list_setitem hl.typeIs entry_list_setitem ?_ (args_list_setitem _ _ _)))
  show wpAny _ _ (Builtin.List.listSubscript? (.ref sl) >>= _) _ _ s
  refine wpAny_bind ?_
  unfold Builtin.List.listSubscript?
  refine wpAny_bind (wpAny_specialOf hTs slice_no_index ?_)
  simp only [Option.isNone_none, if_true]
  refine wpAny_pure ?_
  show wpAny _ _ (typeOf (.ref sl) >>= _) _ _ s
  refine wpAny_bind (wpAny_typeOf hTs ?_)
  first
    | rw [if_neg (by decide)]
    | refine PySem.W.KFB.if_not (by decide) ?_
  rw [listSliceParts_eq]
  refine wpAny_bind (wpAny_bind (wpAny_field hos hds (x := .none) rfl (wpAny_bind (wpAny_listPart .none ?_))))
  rw [if_neg hstep]
  refine wpAny_bind (wpAny_field hos hds (x := .none) rfl (wpAny_bind (wpAny_listPart .none ?_)))
  refine wpAny_bind (wpAny_field hos hds (x := .none) rfl (wpAny_bind (wpAny_listPart .none (wpAny_pure ?_))))
  first
    | simp only [hsame, Bool.false_eq_true, if_false]
    | refine PySem.W.KFB.if_not hsame ?_
    | (dsimp only
       rw [if_neg (by rw [hsame]; exact Bool.false_ne_true)])
  refine wpAny_bind (m := Builtin.List.listAllItems (.ref b) "must assign iterable to extended slice") ?_
  unfold Builtin.List.listAllItems
  refine wpAny_bind (wpAny_typeOf hb.typeIs ?_)
  first
    | refine PySem.W.KFB.if_so (by decide) ?_
    | rw [if_pos (by decide)]
    | simp only [beq_self_eq_true, Bool.true_or, if_true]
  unfold Builtin.List.listItems
  refine wpAny_bind (wpAny_seqItems e2 rfl (wpAny_pure ?_))
  refine wpAny_bind (wpAny_bind (wpAny_seqItems e rfl (wpAny_pure ?_)))
  refine wpAny_bind (wpAny_of_eq ((sliceIndices_raw none none none items.size (by simp)).trans (congrArg (pure : Int × Int × Int → Sem (Int × Int × Int)) bounds_all)) ?_)
  show wpAny _ _ (if ((1 : Int) == 1) = true then _ else _) _ _ s
  rw [if_pos (by decide)]
  refine wpAny_bind (wpAny_rule ?_)
  first
    | simp only [notLongL hsz, Bool.false_eq_true, if_false]
    | refine PySem.W.KFB.if_not (notLongL hsz) ?_
  first | refine wpAny_bind (wpAny_pure ?_) | skip
  show wpAny _ _ (updateSeq l (fun xs => xs.extract 0 ((0 : Int)).toNat ++ new ++ xs.extract (max (0 : Int) (items.size : Int)).toNat xs.size) >>= _) _ _ s
  rw [hmax]
  refine wpAny_bind (wpAny_updateSeq (hz := Nat.le_trans (Nat.le_add_right _ _) hsz) (_hz' := hz') e rfl ?_)
  refine wpAny_bind (wpAny_letGo ?_)
  first
    | exact wpAny_bind (wpAny_pure (wpAny_pure ⟨.none, rfl, wpAny_pure h⟩))
    | exact wpAny_pure ⟨.none, rfl, wpAny_pure h⟩
end
section
variable {X : Cx}
theorem set_all {pins : List (Addr × Obj)} {s : Shared} {σ : L2.St} {H : Hp} {l b sl : Addr} {xs ys : List V} {Q : Unit → Shared → Prop} (I : Inv X pins σ H s)
    (hH : H l = some (.lst xs)) (hB : H b = some (.lst ys)) (hne : l ≠ b) (hs : s.heap.IsSliceOf sl .none .none .none)
    (hz : xs.length + ys.length ≤ sizeLine) (h : ∀ s', Inv X pins σ (upd H l (.lst ys)) s' → Q () s') :
    wpAny (model X.prog X.w) X.A (setItem (.ref l) (.ref sl) (.ref b)) Q X.xe s := by
  obtain ⟨z, its, n, r, hl, e⟩ := I.lstM hH
  obtain ⟨z2, its2, n2, r2, hl2, e2⟩ := I.lstM hB
  refine setItem_all e e2 hne hs (by rw [List.size_toArray, List.size_toArray]; omega) (h _ ?_)
  refine I.lset (its' := its2) (t' := s.toks) hH e ?_ r2 (by omega)
  have q := splice_eq its its2 0 its.length
  simpa using q
def rAllL : V → V → Hp → (Hp → Prop) → Prop := fun o v H Q => ∃ l b xs ys, o = .ref l ∧ v = .ref b ∧ H l = some (.lst xs) ∧ H b = some (.lst ys) ∧ l ≠ b ∧ xs.length + ys.length ≤ sizeLine ∧ Q (upd H l (.lst ys))
def gAll (to : TE) : TG := fun v σ H Q => to σ H fun o H1 => rAllL o v H1 fun H2 => Q σ H2
theorem pg_all {o : Expr} {to : TE} {pos p2 : Pos} (ho : PE X o to)
    (ha : ∀ v, assign (.Subscript o (.Slice none none none p2) pos) X.env v = (do
      let ov ← holding [v] (eval o X.env)
      let iv ← holding [v, ov] (eval (.Slice none none none p2) X.env)
      standAt pos
      holding [v, ov, iv] (setItem ov iv v)
      release [iv, v, ov] []) := by intro _; rfl) : PG X (.Subscript o (.Slice none none none p2) pos) (gAll to) := by
  refine ⟨fun pins s σ H v u Q I r h => ?_⟩
  rw [ha]
  refine wpAny_bind (wpAny_holding (thn (ho.run pins s σ H _ I h) fun ov s1 ⟨x, H1, I1, r1, q1⟩ => ?_))
  refine wpAny_bind (wpAny_holding (wpAny_Slice ?_))
  rw [evalPart_none]
  refine wpAny_pure ?_
  refine wpAny_pure ?_
  refine wpAny_pure ?_
  have I4 : Inv X pins σ H1 { s1 with heap := s1.heap.push { cls := .type "slice", data := .fields #[.none, .none, .none] } } := I1.kept (t' := s1.toks) fun b ob q => Heap.get?_push_of_some _ q
  obtain ⟨l, b, xs, ys, rfl, rfl, hl, hb, hne, hz, q⟩ := q1
  cases r1
  cases r
  refine wpAny_bind (wpAny_standAt (wpAny_bind (wpAny_holding (set_all I4 hl hb hne (Heap.IsSliceOf.new ..) hz fun s' I5 => ?_))))
  exact wpAny_release ⟨σ, _, I5, q⟩
end
section
variable {K : PySem.W.Frag} {L R R' : List HA} {α : Type} {E : El K α} {l b : Addr} {xs ys : List α} {φ : Hp → Prop} {σ : L2.St}
theorem e_gall {to : TE} {v : V} {Q : L2.St → Hp → Prop} (q : Ent L fun H => to σ H fun o H1 => rAllL o v H1 fun H2 => Q σ H2) : Ent L fun H => gAll to v σ H Q := q
theorem c_all2 {k : Prop} (hm : grd (xs.length + ys.length ≤ 200000) k) (t : Take (ls E l xs) L R) (g : Take (ls E b ys) R R') (q : k → Ent (ls E l ys :: R') φ) : Ent L fun H => rAllL (.ref l) (.ref b) H φ := fun H h => by
  have h1 := (Sub.take t g).to h
  obtain ⟨vs, e1, a1⟩ := t.ls h
  obtain ⟨us, e2, a2⟩ := g.ls (Sub.to (Sub.drop Sub.refl) (t.to h))
  have hne : l ≠ b := by
    obtain ⟨S, S1, S2, ⟨_, s1⟩, ⟨S3, S4, ⟨_, s3⟩, _, _, hs3⟩, hd, hs⟩ := h1
    rintro rfl
    exact hd l ((s1 l).mpr rfl) ((hs3 l).mpr (.inl ((s3 l).mpr rfl)))
  refine ⟨l, b, vs, us, rfl, rfl, e1, e2, hne, by rw [a1.len, a2.len]; exact Nat.le_trans hm.1 (by decide), q hm.2 _ ?_⟩
  exact Sub.to (Sub.cons (Sub.drop Sub.refl)) ((h1.ls_upd a2))
end
end Toy
namespace Toy
open PySem L2 PySem.Spec PyProof.Rows
/-! ## set(xs) of a list of whole numbers, sorted of it -/
section
variable {P : Program} {w : World} {A : Around} {E : Value → Shared → Prop} {s : Shared}
set_option maxHeartbeats 3200000 in
theorem call_setL {l : Addr} {items : Array Value} (ns : List Int) {Q : Value → Shared → Prop} (hh : A.handled = none) (hl : s.heap.IsList l items) (hit : IntsAre items.toList ns) (hb : ns.length + 1 < scanBound)
    (h : ∀ (h' : Heap) (tk c : Nat), SetR w h' s.heap.objs.size (fun j => decide (j ∈ ns)) c → c ≤ ns.length → (∀ b o, s.heap.get? b = some o → h'.get? b = some o) → Q (.ref s.heap.objs.size) { s with heap := h', toks := tk }) :
    wpAny (model P w) A (call (.type "set") [.ref l]) Q E s := by
  have hisz : items.size = ns.length := by
    have q := IntsAre.length hit
    rw [Array.length_toList] at q
    exact q
  obtain ⟨c, tl, hmro⟩ := F.called_set.mro
  have hmade := F.called_set.made
  have hsub := F.called_set.sub
  refine wpAny_call (codeAny_of_tree ?_)
  show wpAny _ _ (callAny (.type "set") _) _ _ _
  refine wpAny_pure ⟨Code.quiet_builtin _ (by decide +kernel), codeAny_builtin F.entry_type_call ?_⟩
  rw [Around.under_plain (weight_type_call_type "set" [.ref l] []) rfl]
  have h1 := F.called_set.notType
  have h2 := F.called_set.canCreate
  have hct := F.typeCall_set_1 (.ref l)
  repeat (any_goals (first | assumption | wp_step))
  generalize hO : ({ cls := .type "set", dict := none, data := .set #[] 0 (.fresh 0 0 (!w.params.followText "set-order")) } : Obj) = ob
  refine codeAny_mono (code_set_led1 (.ref l) (E := E) (Q₁ := fun obj s₁ => obj = .ref s.heap.objs.size ∧ s₁ = { s with heap := s.heap.push ob }) (by rw [hO]; exact ⟨rfl, rfl⟩)) fun r s₁ hr => ?_
  match r, hr with
  | .error e, hr => exact hr
  | .ok .next, hr => exact hr.elim
  | .ok .brk, hr => exact hr.elim
  | .ok .cont, hr => exact hr.elim
  | .ok (.ret obj), hr =>
    obtain ⟨rfl, rfl⟩ := hr
    have hS : (s.heap.push ob).get? s.heap.objs.size = some ob := Heap.get?_push_size _ (by rw [← hO]; rfl)
    have hT : Shared.TypeIs { s with heap := s.heap.push ob } (.ref s.heap.objs.size) "set" := ⟨_, hS, by rw [← hO]⟩
    have hli := F.called_set.init.lookup
    have hbi := F.called_set.init.bind (.ref s.heap.objs.size)
    repeat (any_goals (first | assumption | wp_step))
    refine codeAny_mono (codeAny_call_builtin (R := wants (fun r s₂ => r = .none ∧ ∃ h' tk c, s₂ = { s with heap := h', toks := tk } ∧ SetR w h' s.heap.objs.size (fun j => decide (j ∈ ns)) c ∧ c ≤ ns.length ∧
        (∀ b o, s.heap.get? b = some o → h'.get? b = some o)) E) F.called_set.init.plain F.entry_set_init (check_set_init_1 hT ?_)) fun r₂ s₂ hr₂ => ?_
    · obtain ⟨⟨ocls, odict, odata, oslots⟩, hol, hcl, nl, hdl⟩ := hl
      simp only at hcl hdl
      subst hcl; subst hdl
      have hlS : l < s.heap.objs.size := Heap.lt_size hol
      have hz1 : (s.heap.push ob).objs.size = s.heap.objs.size + 1 := Heap.size_push ..
      have hl1 : (s.heap.push ob).IsList l items := ⟨_, Heap.get?_push_of_some _ hol, rfl, nl, rfl⟩
      have hsls := F.sub_list_set
      have hslf := F.sub_list_frozenset
      have hne : (Value.type "list" == Value.type "dict") = false := by decide
      have hol' := Heap.get?_push_of_some ob hol
      subst hO
      unfold Builtin.«set.__init__» noKeywords Builtin.Frozenset.updateFrom
      generalize hPI : pyIter = PI
      wp_walk
      subst hPI
      refine wpAny_pyIter_list hl1 ?_
      refine wpAny_bind (wpAny_runValue ?_)
      have hh3 : A.in1.in1.in1.handled = none := by simp [hh]
      have hval : ∀ (i : Nat) (v : Value), items[i]? = some v → ∃ k t, ns[i]? = some k ∧ v = .int k t := fun i v hv => by
        have hi : i < ns.length := by rw [← hisz]; exact (Array.getElem?_eq_some_iff.mp hv).1
        obtain ⟨t, e⟩ := PyProof.Rows.IntsAre.int_at hit i v (by rw [Array.getElem?_toList]; exact hv)
        refine ⟨ns[i], t, List.getElem?_eq_getElem hi, ?_⟩
        rw [e, List.getD_eq_getElem?_getD, List.getElem?_eq_getElem hi] <;> rfl
      refine set_update_ints ((Walks.list hh3 _ l (by rw [Heap.size_push]; exact Nat.ne_of_lt (Nat.lt_succ_of_lt hlS)) items).toS) s.heap.objs.size
        (by rw [Heap.size_push]; simp only [List.mem_cons, List.not_mem_nil, or_false, not_or]; exact ⟨Nat.ne_of_lt (Nat.lt_succ_self _), Nat.ne_of_gt hlS⟩) ns hisz hb hval (items.size - 0) 0 _ (by omega) (Nat.zero_le _)
        ⟨⟨_, Heap.get?_push_size _ rfl, rfl, rfl⟩, (hl1.push _)⟩ ⟨0, Nat.le_refl 0, setR_new_at (Heap.get?_push_of_some _ hS)⟩ fun s' c' hm hc' hS' => ?_
      obtain ⟨h', g2, d', tk', os'⟩ := s'
      have eg : g2 = s.gens := hm.gens
      have ed : d' = s.drawn := hm.drawn
      have eo : os' = s.os := hm.os
      subst eg; subst ed; subst eo
      show wpAny _ _ _ _ _ _
      refine wpAny_pure ?_
      show wpAny _ _ (ret Value.none) _ _ _
      rw [hisz] at hc'
      refine wpAny_pure ⟨rfl, h', tk', c', rfl, hS', hc', fun b o e => ?_⟩
      have hb0 : b < s.heap.objs.size := Heap.lt_size e
      exact hm.heap b o (by rw [Heap.size_push]; simp only [List.mem_cons, List.not_mem_nil, or_false, not_or]; exact ⟨Nat.ne_of_lt hb0, Nat.ne_of_lt (Nat.lt_succ_of_lt hb0)⟩) (Heap.get?_push_of_some _ (Heap.get?_push_of_some _ e))
    · match r₂, hr₂ with
      | .error e, hr₂ => exact hr₂
      | .ok .next, hr₂ => exact hr₂.elim
      | .ok .brk, hr₂ => exact hr₂.elim
      | .ok .cont, hr₂ => exact hr₂.elim
      | .ok (.ret r), hr₂ =>
        obtain ⟨rfl, h', tk, c', rfl, hS', hc', hk'⟩ := hr₂
        repeat (any_goals (first | assumption | wp_step))
        exact h _ _ _ hS' hc' hk'
end
section
variable {X : Cx} {w : World} {K : PySem.W.Frag}
def rSetI (w : World) (K : PySem.W.Frag) : List V → Hp → VK → Prop := fun xs H Q => ∃ (l : Addr) (ns : List Int), xs = [V.ref l] ∧ SqL K H l (ns.map V.int) ∧ ns.length + 1 < scanBound ∧
  ∀ (p : Addr) (c : Nat), H p = none → c ≤ ns.length → Q (.ref p) (upd H p (SetO w p (fun j => decide (j ∈ ns)) c))
theorem cr_setI (hc : X.calm = true := by rfl) (hw : X.w = w := by rfl) (hK : X.K = K := by rfl) : CallR X (.type "set") (rSetI w K) := by
  subst hw hK
  intro pins s σ H xs us Q I r h
  obtain ⟨l, ns, rfl, hq, hb, q⟩ := h
  rw [Vals.ref1 r]
  obtain ⟨its, rv, pl, hz⟩ := I.list hq
  refine call_setL ns (I.ok.hd hc) pl.isList (by simpa using rv.ints) hb fun h' tk c hS hcn hk => ?_
  exact ⟨.ref _, upd H s.heap.objs.size (SetO X.w s.heap.objs.size (fun j => decide (j ∈ ns)) c), I.laid (t' := tk) hk (Nat.le_refl _) (setO_new hS), rfl, q _ c (I.hok.fresh (Nat.le_refl _)) hcn⟩
theorem cr_sortSet (hc : X.calm = true := by rfl) (hw : X.w = w := by rfl) : CallR X (.builtin "sorted") (rSortedSet w) := by
  subst hw
  exact cr_sortedSet hc
/-! ## d != {} -/
def rNeDk0 : R2 := fun x y H Q => ∃ a b ks, x = .ref a ∧ y = .ref b ∧ H a = some (.dK ks) ∧ H b = some (.dK []) ∧ Q (.bl (!ks.isEmpty)) H
theorem op_neDk0 (hu : X.A.units < cLine) : OpR X (compareOp .NotEq) rNeDk0 := by
  intro pins s σ H x y v u Q I rx ry h
  obtain ⟨a, b, ks, rfl, rfl, ea, eb, q⟩ := h
  obtain rfl : v = Value.ref a := rx
  obtain rfl : u = Value.ref b := ry
  obtain ⟨_, ya, va, ra, da⟩ := (show ObjOk X.prog X.w H s.heap a (.dK ks) from I.hok a _ ea)
  obtain ⟨_, yb, vb, rb, db⟩ := (show ObjOk X.prog X.w H s.heap b (.dK []) from I.hok b _ eb)
  have lb : vb.length = 0 := rb.length.symm
  have la := ra.length
  refine PySem.W.keq_ne (knd := mixKind X.prog X.w) (r := true) ya yb da db hu (fun e => ?_) (fin_bl I q ?_)
  · obtain rfl : va = [] := List.length_eq_zero_iff.mp (by omega)
    exact .nil
  · cases ks with
    | nil => have : va.length = 0 := la.symm; simp [this, lb]
    | cons k ks => have : va.length = ks.length + 1 := la.symm; simp [this, lb]
def rMinDk : List V → Hp → VK → Prop := rMinK
theorem cr_minDk (hc : X.calm = true := by rfl) : CallR X (.builtin "min") rMinDk := cr_minK hc
end
/-! ## the plain words -/
def ddp : List Int → List Int
  | [] => []
  | x :: xs => if x ∈ xs then ddp xs else x :: ddp xs
def sst (ns : List Int) : List Int := srt (ddp ns)
theorem mem_ddp {x : Int} : ∀ {ns : List Int}, x ∈ ddp ns ↔ x ∈ ns
  | [] => Iff.rfl
  | y :: ns => by
    unfold ddp
    have ih := mem_ddp (x := x) (ns := ns)
    split
    · rename_i h
      rw [ih, List.mem_cons]
      exact ⟨.inr, fun z => z.elim (fun e => e ▸ h) id⟩
    · rw [List.mem_cons, List.mem_cons, ih]
theorem nd_ddp : ∀ {ns : List Int}, (ddp ns).Nodup
  | [] => List.Pairwise.nil
  | y :: ns => by
    unfold ddp
    have ih := nd_ddp (ns := ns)
    split
    · exact ih
    · rename_i h
      exact List.nodup_cons.mpr ⟨fun z => h (mem_ddp.mp z), ih⟩
theorem ddp_len : ∀ {ns : List Int}, (ddp ns).length ≤ ns.length
  | [] => Nat.le_refl _
  | y :: ns => by
    unfold ddp
    have ih := ddp_len (ns := ns)
    split
    · exact Nat.le_succ_of_le ih
    · exact Nat.succ_le_succ ih
theorem sst_len {ns : List Int} : (sst ns).length ≤ ns.length := by unfold sst; rw [(srt_perm _).length_eq]; exact ddp_len
theorem mem_sst {ns : List Int} {x : Int} : x ∈ sst ns ↔ x ∈ ns := by unfold sst; rw [(srt_perm _).mem_iff]; exact mem_ddp
theorem sst_eq {ns ms : List Int} (h : ms.Pairwise (· < ·)) (e : ∀ k, k ∈ ms ↔ k ∈ ns) : sst ns = ms := by
  refine srt_eq ?_ (h.imp fun z => by omega)
  rw [List.perm_ext_iff_of_nodup (h.imp fun z => by omega) nd_ddp]
  intro k
  rw [e, mem_ddp]
def oin (o : Option Int) (xs : List Int) : Bool := match o with | none => false | some i => decide (i ∈ xs)
section
variable {K : PySem.W.Frag} {w : World} {L R R' : List HA} {Q : VK} {α : Type} {E : El K α} {l a b : Addr} {v : V}
theorem c_setI {ns : List Int} {k : Prop} (hm : grd (ns.length < 64) k) (t : Take (ls (kI (K := K)) l ns) L R) (q : k → ∀ p c, c < 64 → Ent (pt p (SetO w p (fun j => decide (j ∈ ns)) c) :: L) (Q (.ref p))) : Ent L fun H => rSetI w K [.ref l] H Q := fun H h => by
  obtain ⟨vs, h1, h2⟩ := t.ls h
  obtain rfl := all2_I h2
  exact ⟨l, ns, rfl, SqL.of h1, by unfold scanBound; have := hm.1; omega, fun p c np hc => q hm.2 p c (by have := hm.1; omega) _ (h.new np rfl)⟩
theorem c_sortSet {ns : List Int} {c : Nat} (h64 : c < 64) (t : Take (pt a (SetO w a (fun j => decide (j ∈ ns)) c)) L R) (q : ∀ p, Ent (ls (kI (K := K)) p (sst ns) :: L) (Q (.ref p))) : Ent L fun H => rSortedSet w [.ref a] H Q := fun H h => by
  refine ⟨a, _, c, rfl, t.pt h, h64, fun ms p hp hs _ np => ?_⟩
  rw [← sst_eq (ns := ns) hp fun k => (hs k).trans (by simp)]
  exact q p _ (h.ls_new np (All2.map V.int fun _ _ => rfl))
theorem c_neDk0 {κ : Type} {f : κ → L2.Key} {d : List (κ × α)} (t : Take (dk f E a d) L R) (g : Take (pt b (.dK [])) L R') (q : Ent L (Q (.bl (!d.isEmpty)))) : Ent L fun H => rNeDk0 (.ref a) (.ref b) H Q := fun H h => by
  obtain ⟨kvs, h1, h2⟩ := t.dk h
  refine ⟨a, b, kvs, rfl, rfl, h1, g.pt h, ?_⟩
  have e : kvs.isEmpty = d.isEmpty := by cases h2 <;> rfl
  rw [e]
  exact q H h
theorem c_minDk {d : List (Int × α)} {k : Int → Prop} (hm : obx (minI (d.map (·.1))) k) (t : Take (dk fI E a d) L R) (q : ∀ w, k w → Ent L (Q (.int w))) : Ent L fun H => rMinDk [.ref a] H Q := fun H h => by
  obtain ⟨kvs, h1, h2⟩ := t.dk h
  obtain ⟨m, e, hk⟩ := hm
  obtain ⟨m1, m2⟩ := minI_of e
  refine ⟨a, kvs, d.map (·.1), rfl, h1, keysI h2, (fun z => by rw [z] at m1; cases m1), fun m' a1 a2 => ?_⟩
  obtain rfl : m' = m := by
    have x1 := a2 m m1
    have x2 := m2 m' a1
    omega
  exact q m' hk H h
theorem inV_non : ∀ {xs : List Int}, inV .non (xs.map V.int) = false
  | [] => rfl
  | x :: xs => by
    have ih := inV_non (xs := xs)
    unfold inV at ih ⊢
    rw [List.map_cons, List.any_cons, ih]
    rfl
theorem c_inO {o : Option Int} {xs : List Int} (hv : Is (kO (kI (K := K))) L v o) (t : Take (ls (kI (K := K)) l xs) L R) (q : Ent L (Q (.bl (oin o xs)))) : Ent L fun H => rIn K false v (.ref l) H Q := fun H h => by
  obtain ⟨vs, h1, h2⟩ := t.ls h
  obtain rfl := all2_I h2
  have z := hv H h
  cases o with
  | none =>
    obtain rfl : v = .non := z
    exact ⟨l, _, rfl, .inl (SqL.of h1), rfl, flat_ints _, by rw [inV_non]; exact q H h⟩
  | some i =>
    obtain rfl : v = .int i := z
    exact ⟨l, _, rfl, .inl (SqL.of h1), rfl, flat_ints _, by rw [inV_int]; exact q H h⟩
theorem c_inT2 {i x y : Int} {p : Addr} (t : Take (tu p [.int x, .int y]) L R) (q : Ent L (Q (.bl (decide (i ∈ ([x, y] : List Int)))))) : Ent L fun H => rIn K false (.int i) (.ref p) H Q := fun H h =>
  ⟨p, [x, y].map V.int, rfl, .inr (hasT_tu t H h), rfl, flat_ints _, by rw [inV_int]; exact q H h⟩
theorem c_niT2 {i x y : Int} {p : Addr} (t : Take (tu p [.int x, .int y]) L R) (q : Ent L (Q (.bl (!decide (i ∈ ([x, y] : List Int)))))) : Ent L fun H => rIn K true (.int i) (.ref p) H Q := fun H h =>
  ⟨p, [x, y].map V.int, rfl, .inr (hasT_tu t H h), rfl, flat_ints _, by rw [inV_int]; exact q H h⟩
theorem all2_some {H : Hp} {vs : List V} {xs : List α} (e : All2 (E.P H) vs xs) : All2 ((kO E).P H) vs (xs.map some) := by
  induction e with
  | nil => exact .nil
  | cons z _ ih => exact .cons z ih
theorem take_lsS {xs : List α} (t : Take (ls E l xs) L R) : Take (ls (kO E) l (xs.map some)) L R := Sub.trans t fun H S ⟨S1, S2, ⟨⟨vs, h, e⟩, s⟩, h2, hd, hs⟩ => ⟨S, ⟨S1, S2, ⟨⟨vs, h, all2_some e⟩, s⟩, h2, hd, hs⟩, fun _ q => q⟩
end
end Toy
namespace Toy
open PySem L2 PySem.Spec PyProof.Rows
/-! ## xs.insert(0, y) -/
def rIns : V → List V → Hp → VK → Prop := fun x vs H Q => ∃ (l : Addr) (xs : List V) (i : Int) (y : V), x = .ref l ∧ vs = [.int i, y] ∧ H l = some (.lst xs) ∧ xs.length < sizeLine ∧ 0 ≤ i ∧ i < 2 ^ 63 ∧
    Q .non (upd H l (.lst (xs.take i.toNat ++ [y] ++ xs.drop i.toNat)))
theorem mt_insD {X : Cx} : MtR X "list.insert" rIns := mt_insert
section
variable {K : PySem.W.Frag} {L R : List HA} {Q : VK} {α : Type} {E : El K α} {l : Addr} {v : V}
theorem c_ins0 {xs : List α} {y : α} {k : Prop} (hm : grd (xs.length ≤ 100000) k) (t : Take (ls E l xs) L R) (hy : Is E L v y) (q : k → Ent (ls E l (y :: xs) :: R) (Q .non)) : Ent L fun H => rIns (.ref l) [.int 0, v] H Q := fun H h => by
  obtain ⟨vs, h1, h2⟩ := t.ls h
  refine ⟨l, vs, 0, v, rfl, rfl, h1, by rw [h2.len]; exact Nat.lt_of_le_of_lt hm.1 (by decide), by decide, by decide, ?_⟩
  exact q hm.2 _ ((t.to h).ls_upd (.cons (hy H h) h2))
theorem ty_tu {us : List V} (t : Take (tu l us) L R) : ∀ H, Holds L H → TyX K H (.ref l) (.type "tuple") := fun H h => ty_sqT (hasT_tu t H h)
theorem ty_vTu {B : Els K α} {x : α} (t : Take (vl (kTup B) v x) L R) : ∀ H, Holds L H → TyX K H v (.type "tuple") := fun H h => by
  obtain ⟨S, S1, S2, h1, _⟩ := t.to h
  obtain ⟨⟨p, us, rfl, e, _⟩, _⟩ := h1
  exact ty_sqT (SqT.of e)
theorem ty_vT {xs : List α} (t : Take (vl (kT E) v xs) L R) : ∀ H, Holds L H → TyX K H v (.type "tuple") := fun H h => by
  obtain ⟨S, S1, S2, h1, _⟩ := t.to h
  obtain ⟨⟨p, us, rfl, e, _⟩, _⟩ := h1
  exact ty_sqT e
theorem c_ixLr {vs : List V} {i : Int} (t : Take (pt l (.lst vs)) L R) (e : atI vs i = some v) (q : Ent L (Q v)) : Ent L fun H => rIxL K (.ref l) (.int i) H Q := e_ixL (fun H h => SqL.of (t.pt h)) e q
theorem c_getU1I {E : El K α} {o : α ⊕ Int} {k : Int → Prop} {φ : Hp → Prop} (hm : obu1 o k) (t : Take (vl (kU E (kI (K := K))) v o) L R) (q : ∀ w, k w → v = .int w → Ent L φ) : Ent L φ := fun H h => by
  obtain ⟨w, e, hk⟩ : ∃ w, o = .inr w ∧ k w := by
    cases o with
    | inl x => rw [obu1_l] at hm; exact hm.elim
    | inr w => rw [obu1_r] at hm; exact ⟨w, rfl, hm⟩
  subst e
  obtain ⟨S, S1, S2, h1, _⟩ := t.to h
  exact q w hk h1.1 H h
instance : Apart (kSt (K := K)) (kI (K := K)) := ⟨fun x y => by
  show PyData.eqv (.str x) (.int y) = false
  simp [PyData.eqv], fun x y => by
  show PyData.eqv (.int y) (.str x) = false
  simp [PyData.eqv]⟩
end
end Toy
namespace Toy
open PySem L2 PySem.Spec PyProof.Rows
/-! ## dicts that are records: written text keys -/
def kDisp (p : Addr) (Q : VK) (ps : List (V × V)) (H2 : Hp) : Prop := H2 p = some (.dK []) ∧ ∃ kvs : List (L2.Key × V), ps = kvs.map (fun kv => (kV kv.1, kv.2)) ∧ kvs.length ≤ 15 ∧ Q (.ref p) (L2.upd H2 p (.dK (mergeK [] kvs)))
def kPair (x y : V) (Q : List (V × V) → Hp → Prop) (ps : List (V × V)) (H : Hp) : Prop := Q ((x, y) :: ps) H
section
variable {L R : List HA} {Q : VK} {φ : Hp → Prop} {v u x y : V} {σ : L2.St} {td ty tv tx : TE} {Qp : List (V × V) → Hp → Prop} {p : Addr}
theorem e_disp {trs : List (TE × TE)} (q : ∀ p, Ent (pt p (.dK []) :: L) fun H => tPairs trs σ H (kDisp p Q)) : Ent L fun H => tDisp trs σ H Q := fun H h p np => q p _ (h.new np rfl)
theorem e_pairC {r : List (TE × TE)} (q : Ent L fun H => td σ H fun x H1 => tv σ H1 fun y H2 => tPairs r σ H2 (kPair x y Qp)) : Ent L fun H => tPairs ((td, tv) :: r) σ H Qp := q
theorem e_pairN (q : Ent L fun H => Qp [] H) : Ent L fun H => tPairs [] σ H Qp := q
theorem e_pairK {ps : List (V × V)} (q : Ent L fun H => Qp ((x, y) :: ps) H) : Ent L fun H => kPair x y Qp ps H := q
theorem dgR {r : Addr} {kvs : List (L2.Key × V)} {k : Str} (t : Take (pt r (.dK kvs)) L R) (e : valV kvs (Sum.inr k) = some v) (q : Ent L (Q v)) : Ent L fun H => kDGet Q (.ref r) (.str k) H := fun H h => by
  refine ⟨r, v, rfl, ?_, q H h⟩
  have := DGet.k (k := (Sum.inr k : L2.Key)) (t.pt h)
  rw [e] at this
  exact this
theorem dpR {r : Addr} {kvs kvs' : List (L2.Key × V)} {k : Str} (t : Take (pt r (.dK kvs)) L R) (hl : kvs.length < sizeLine) (e : putK kvs (Sum.inr k) v = kvs') (q : Ent (pt r (.dK kvs') :: R) φ) : Ent L fun H => kDPut φ (.ref r) (.str k) v H := fun H h => by
  subst e
  exact ⟨r, _, rfl, DPut.k (k := (Sum.inr k : L2.Key)) (t.pt h) hl, q _ ((t.to h).upd rfl)⟩
theorem mkR {kvs kvs' : List (L2.Key × V)} {ps : List (V × V)} (t : Take (pt p (.dK [])) L R) (ep : ps = kvs.map (fun kv => (kV kv.1, kv.2))) (hl : kvs.length ≤ 15) (e : mergeK [] kvs = kvs') (q : Ent (pt p (.dK kvs') :: R) (Q (.ref p))) : Ent L fun H => kDisp p Q ps H := fun H h => by
  subst e
  exact ⟨t.pt h, kvs, ep, hl, q _ ((t.to h).upd rfl)⟩
end
/-! ## tuples of any length: cut, made of a list or a tuple, joined -/
section
variable {K : PySem.W.Frag} {α β : Type} {L R R' : List HA} {Q : VK} {E : El K α} {v u : V} {xs ys : List α}
theorem slTA {X : Cx} (h : X.K = K := by rfl) : SlR X (rSlA K) := h ▸ sl_tupA
theorem catTA {X : Cx} (h : X.K = K := by rfl) : OpR X (binaryOp .Add) (rCatA K) := h ▸ op_catA
theorem c_slKT {lo hi : Option Int} (t : Take (vl (kT E) v xs) L R) (q : ∀ p, Ent (vl (kT E) (.ref p) (cutA xs lo hi) :: L) (Q (.ref p))) : Ent L fun H => rSlA K v lo hi H Q := fun H h => by
  obtain ⟨a, vs, rfl, h1, h2⟩ := t.vl h
  refine ⟨a, vs, rfl, h1, fun hw => ?_, fun hw p np => ?_⟩
  · have e : cutA xs lo hi = xs := by
      unfold cutA
      rw [← h2.len, hw.1, hw.2, List.drop_zero, Nat.sub_zero, h2.len, List.take_length]
    refine q a H (h.vl ?_)
    rw [e]
    exact ⟨a, vs, rfl, h1, h2⟩
  · obtain ⟨b, n, e, e2, e3⟩ := h2.cutV (lo := lo) (hi := hi)
    have h3 : Holds L (L2.upd H p (.tup (L2.cutV vs lo hi))) := Sub.to (Sub.drop Sub.refl) (h.newI (o := .tup (L2.cutV vs lo hi)) np rfl)
    refine q p _ (h3.vl ⟨p, _, rfl, SqT.of upd_same, ?_⟩)
    rw [e, e2, e3]
    exact ((h2.imp fun _ _ z => E.st z (keepI_new np)).drop _).take _
theorem c_tupSq (h : SqAt E L v xs) (q : ∀ p, Ent (vl (kT E) (.ref p) xs :: L) (Q (.ref p))) : Ent L fun H => rTupK K [v] H Q := fun H z => by
  cases h with
  | lst h =>
    obtain ⟨vs, h1, h2⟩ := h H z
    refine ⟨_, vs, rfl, .inl ⟨h1, fun p np => q p _ ?_⟩⟩
    have h3 : Holds L (L2.upd H p (.tup vs)) := Sub.to (Sub.drop Sub.refl) (z.newI (o := .tup vs) np rfl)
    exact h3.vl ⟨p, vs, rfl, SqT.of upd_same, h2.imp fun _ _ y => E.st y (keepI_new np)⟩
  | tup h =>
    obtain ⟨a, vs, rfl, h1, h2⟩ := h H z
    exact ⟨_, vs, rfl, .inr ⟨h1, q _ H (z.vl ⟨_, vs, rfl, h1, h2⟩)⟩⟩
theorem c_catKT (t : Take (vl (kT E) v xs) L R) (t2 : Take (vl (kT E) u ys) L R') {k : Prop} (hm : grd (xs.length + ys.length ≤ 100000) k) (q : k → ∀ p, Ent (vl (kT E) (.ref p) (xs ++ ys) :: L) (Q (.ref p))) : Ent L fun H => rCatA K v u H Q := fun H h => by
  obtain ⟨a, vs, rfl, h1, h2⟩ := t.vl h
  obtain ⟨b, ws, rfl, h3, h4⟩ := t2.vl h
  have hq := q hm.2
  refine ⟨a, b, vs, ws, rfl, rfl, h1, h3, by rw [h2.len, h4.len]; exact Nat.le_trans hm.1 (by decide), fun e => ?_, fun _ e => ?_, fun _ _ p np => ?_⟩
  · subst e
    cases h2
    exact hq b H (h.vl ⟨b, ws, rfl, h3, h4⟩)
  · subst e
    cases h4
    exact hq a H (h.vl (by rw [List.append_nil]; exact ⟨a, vs, rfl, h1, h2⟩))
  · have h5 : Holds L (L2.upd H p (.tup (vs ++ ws))) := Sub.to (Sub.drop Sub.refl) (h.newI (o := .tup (vs ++ ws)) np rfl)
    exact hq p _ (h5.vl ⟨p, _, rfl, SqT.of upd_same, (h2.app h4).imp fun _ _ y => E.st y (keepI_new np)⟩)
theorem c_inT1 {i x0 : Int} {p : Addr} (t : Take (tu p [.int x0]) L R) (q : Ent L (Q (.bl (decide (i ∈ ([x0] : List Int)))))) : Ent L fun H => rIn K false (.int i) (.ref p) H Q := fun H h =>
  ⟨p, [x0].map V.int, rfl, .inr (hasT_tu t H h), rfl, flat_ints _, by rw [inV_int]; exact q H h⟩
theorem c_niT1 {i x0 : Int} {p : Addr} (t : Take (tu p [.int x0]) L R) (q : Ent L (Q (.bl (!decide (i ∈ ([x0] : List Int)))))) : Ent L fun H => rIn K true (.int i) (.ref p) H Q := fun H h =>
  ⟨p, [x0].map V.int, rfl, .inr (hasT_tu t H h), rfl, flat_ints _, by rw [inV_int]; exact q H h⟩
theorem c_inT3 {i x0 x1 x2 : Int} {p : Addr} (t : Take (tu p [.int x0, .int x1, .int x2]) L R) (q : Ent L (Q (.bl (decide (i ∈ ([x0, x1, x2] : List Int)))))) : Ent L fun H => rIn K false (.int i) (.ref p) H Q := fun H h =>
  ⟨p, [x0, x1, x2].map V.int, rfl, .inr (hasT_tu t H h), rfl, flat_ints _, by rw [inV_int]; exact q H h⟩
theorem c_niT3 {i x0 x1 x2 : Int} {p : Addr} (t : Take (tu p [.int x0, .int x1, .int x2]) L R) (q : Ent L (Q (.bl (!decide (i ∈ ([x0, x1, x2] : List Int)))))) : Ent L fun H => rIn K true (.int i) (.ref p) H Q := fun H h =>
  ⟨p, [x0, x1, x2].map V.int, rfl, .inr (hasT_tu t H h), rfl, flat_ints _, by rw [inV_int]; exact q H h⟩
theorem c_inT4 {i x0 x1 x2 x3 : Int} {p : Addr} (t : Take (tu p [.int x0, .int x1, .int x2, .int x3]) L R) (q : Ent L (Q (.bl (decide (i ∈ ([x0, x1, x2, x3] : List Int)))))) : Ent L fun H => rIn K false (.int i) (.ref p) H Q := fun H h =>
  ⟨p, [x0, x1, x2, x3].map V.int, rfl, .inr (hasT_tu t H h), rfl, flat_ints _, by rw [inV_int]; exact q H h⟩
theorem c_niT4 {i x0 x1 x2 x3 : Int} {p : Addr} (t : Take (tu p [.int x0, .int x1, .int x2, .int x3]) L R) (q : Ent L (Q (.bl (!decide (i ∈ ([x0, x1, x2, x3] : List Int)))))) : Ent L fun H => rIn K true (.int i) (.ref p) H Q := fun H h =>
  ⟨p, [x0, x1, x2, x3].map V.int, rfl, .inr (hasT_tu t H h), rfl, flat_ints _, by rw [inV_int]; exact q H h⟩
theorem c_inT5 {i x0 x1 x2 x3 x4 : Int} {p : Addr} (t : Take (tu p [.int x0, .int x1, .int x2, .int x3, .int x4]) L R) (q : Ent L (Q (.bl (decide (i ∈ ([x0, x1, x2, x3, x4] : List Int)))))) : Ent L fun H => rIn K false (.int i) (.ref p) H Q := fun H h =>
  ⟨p, [x0, x1, x2, x3, x4].map V.int, rfl, .inr (hasT_tu t H h), rfl, flat_ints _, by rw [inV_int]; exact q H h⟩
theorem c_niT5 {i x0 x1 x2 x3 x4 : Int} {p : Addr} (t : Take (tu p [.int x0, .int x1, .int x2, .int x3, .int x4]) L R) (q : Ent L (Q (.bl (!decide (i ∈ ([x0, x1, x2, x3, x4] : List Int)))))) : Ent L fun H => rIn K true (.int i) (.ref p) H Q := fun H h =>
  ⟨p, [x0, x1, x2, x3, x4].map V.int, rfl, .inr (hasT_tu t H h), rfl, flat_ints _, by rw [inV_int]; exact q H h⟩
theorem c_inT6 {i x0 x1 x2 x3 x4 x5 : Int} {p : Addr} (t : Take (tu p [.int x0, .int x1, .int x2, .int x3, .int x4, .int x5]) L R) (q : Ent L (Q (.bl (decide (i ∈ ([x0, x1, x2, x3, x4, x5] : List Int)))))) : Ent L fun H => rIn K false (.int i) (.ref p) H Q := fun H h =>
  ⟨p, [x0, x1, x2, x3, x4, x5].map V.int, rfl, .inr (hasT_tu t H h), rfl, flat_ints _, by rw [inV_int]; exact q H h⟩
theorem c_niT6 {i x0 x1 x2 x3 x4 x5 : Int} {p : Addr} (t : Take (tu p [.int x0, .int x1, .int x2, .int x3, .int x4, .int x5]) L R) (q : Ent L (Q (.bl (!decide (i ∈ ([x0, x1, x2, x3, x4, x5] : List Int)))))) : Ent L fun H => rIn K true (.int i) (.ref p) H Q := fun H h =>
  ⟨p, [x0, x1, x2, x3, x4, x5].map V.int, rfl, .inr (hasT_tu t H h), rfl, flat_ints _, by rw [inV_int]; exact q H h⟩
end
end Toy
namespace Toy
open PySem L2 PySem.Spec PyProof.Rows
/-! ## written dicts of the top, known whole -/
def PairsT : List DictEntry → List (Str × V) → Prop
  | [], [] => True
  | e :: es, p :: ps => (∃ t, e.key = .str p.1 t) ∧ RelV p.2 e.val ∧ PairsT es ps
  | _, _ => False
structure KTab (K : PySem.W.Frag) (w : World) (a : Addr) (T : List (Str × V)) : Prop where
  ex : ∃ es n, KDict K w a es n ∧ PairsT es.toList T
  nd : (T.map (·.1)).Nodup
  sz : T.length ≤ sizeLine
theorem pairsT_find : ∀ {es : List DictEntry} {T : List (Str × V)}, PairsT es T → ∀ x, (∀ v, dlk T x = some v → ∃ e, es.find? (·.key.isStr x) = some e ∧ RelV v e.val) ∧ (dlk T x = none → es.find? (·.key.isStr x) = none)
  | [], [], _, x => ⟨fun v e => (by cases e), fun _ => rfl⟩
  | e :: es, p :: ps, ⟨⟨t, hk⟩, hr, hp⟩, x => by
    have ih := pairsT_find hp x
    have ek : e.key.isStr x = decide (p.1 = x) := by rw [hk]; show (p.1 == x) = _; by_cases c : p.1 = x <;> simp [c]
    unfold dlk at ih ⊢
    rw [List.find?_cons, List.find?_cons, ek]
    by_cases c : p.1 = x
    · simp only [c, decide_true]
      exact ⟨fun v ev => ⟨e, rfl, by cases ev; exact hr⟩, fun z => by cases z⟩
    · simp only [c, decide_false]
      exact ih
theorem pairsT_ref : ∀ {es : List DictEntry} {T : List (Str × V)}, PairsT es T → es.any (·.refKey) = false
  | [], [], _ => rfl
  | e :: es, p :: ps, ⟨⟨t, hk⟩, hr, hp⟩ => by
    rw [List.any_cons, pairsT_ref hp]
    unfold DictEntry.refKey
    rw [hk]; rfl
theorem KTab.ns {K : PySem.W.Frag} {w : World} {a : Addr} {T : List (Str × V)} (k : KTab K w a T) (x : Str) : ∃ es n, KDict K w a es n ∧ ∃ r, PySem.W.nsIn K a x = some r ∧ (∀ v, dlk T x = some v → ∃ u, r = some u ∧ RelV v u) ∧ r.isSome = (dlk T x).isSome := by
  obtain ⟨es, n, D, hp⟩ := k.ex
  refine ⟨es, n, D, ?_⟩
  have h1 := pairsT_find hp x
  unfold PySem.W.nsIn
  rw [D.at_]
  dsimp only
  cases e : dlk T x with
  | none =>
    rw [h1.2 e]
    dsimp only
    rw [if_neg (by rw [pairsT_ref hp]; decide)]
    exact ⟨none, rfl, fun v z => (by cases z), rfl⟩
  | some v =>
    obtain ⟨d, e2, r⟩ := h1.1 v e
    rw [e2]
    exact ⟨some d.val, rfl, fun v' z => by cases z; exact ⟨_, rfl, r⟩, rfl⟩
theorem pairsT_kvs {P : Program} {w : World} : ∀ {es : List DictEntry} {T : List (Str × V)}, PairsT es T → ∃ vs, KV (T.map fun p => ((Sum.inr p.1 : L2.Key), p.2)) vs ∧ Pairs (mixKind P w) es vs ∧ vs.map (·.1) = (T.map fun p => (Sum.inr p.1 : L2.Key))
  | [], [], _ => ⟨[], .nil, .nil, rfl⟩
  | e :: es, p :: ps, ⟨⟨t, hk⟩, hr, hp⟩ => by
    obtain ⟨vs, h1, h2, h3⟩ := pairsT_kvs (P := P) (w := w) hp
    refine ⟨(Sum.inr p.1, e.val) :: vs, .cons ⟨rfl, hr⟩ h1, .cons ?_ rfl h2, by rw [List.map_cons, List.map_cons, h3]⟩
    show keyIs (Sum.inr p.1) e.key = true
    rw [hk]
    show (p.1 == p.1) = true
    exact beq_self_eq_true _
theorem KTab.dict {K : PySem.W.Frag} {w : World} {P : Program} {a : Addr} {T : List (Str × V)} (k : KTab K w a T) {h : Heap} (X : K.In h) : (a == sysModules) = false ∧ ∃ vs, KV (T.map fun p => ((Sum.inr p.1 : L2.Key), p.2)) vs ∧ h.DictOf (mixKind P w) a vs := by
  obtain ⟨es, n, D, hp⟩ := k.ex
  obtain ⟨vs, h1, h2, h3⟩ := pairsT_kvs (P := P) (w := w) hp
  refine ⟨D.low, vs, h1, _, es, n, X _ _ D.at_, ⟨rfl, rfl, rfl⟩, rfl, fun e he => ?_, h2, ?_⟩
  · obtain ⟨x, t, e1, e2⟩ := D.lit.all e (Array.mem_toList_iff.mpr he)
    refine ⟨Sum.inr x, ?_, by rw [e2]; rfl⟩
    show keyIs (Sum.inr x) e.key = true
    rw [e1]
    show (x == x) = true
    exact beq_self_eq_true _
  · rw [h3, show (T.map fun p => (Sum.inr p.1 : L2.Key)) = (T.map (·.1)).map Sum.inr by rw [List.map_map]; rfl]
    exact k.nd.map _ fun a b n z => n (Sum.inr.inj z)
section
variable {K : PySem.W.Frag} {w : World}
def rInKT (K : PySem.W.Frag) (w : World) : R2 := fun x y H Q => ∃ z d T, x = .str z ∧ y = .ref d ∧ KTab K w d T ∧ Q (.bl (dlk T z).isSome) H
def rNiKT (K : PySem.W.Frag) (w : World) : R2 := fun x y H Q => ∃ z d T, x = .str z ∧ y = .ref d ∧ KTab K w d T ∧ Q (.bl (!(dlk T z).isSome)) H
variable {X : Cx}
theorem op_inKT (hK : X.K = K := by rfl) (hw : X.w = w := by rfl) : OpR X (compareOp .In) (rInKT K w) := by
  subst hK hw
  intro pins s σ H x y v u Q I rx ry ⟨z, d, T, e1, e2, k, q⟩
  obtain ⟨es, n, D, r, e, _, hr⟩ := k.ns z
  exact op_in_kd D pins s σ H x y v u Q I rx ry ⟨z, r, e1, e2, e, by rw [hr]; exact q⟩
theorem op_niKT (hK : X.K = K := by rfl) (hw : X.w = w := by rfl) : OpR X (compareOp .NotIn) (rNiKT K w) := by
  subst hK hw
  intro pins s σ H x y v u Q I rx ry ⟨z, d, T, e1, e2, k, q⟩
  obtain ⟨es, n, D, r, e, _, hr⟩ := k.ns z
  exact op_notIn_kd D pins s σ H x y v u Q I rx ry ⟨z, r, e1, e2, e, by rw [hr]; exact q⟩
def rLenKT (K : PySem.W.Frag) (w : World) : List V → Hp → VK → Prop := fun xs H Q => ∃ a T, xs = [V.ref a] ∧ KTab K w a T ∧ Q (.int T.length) H
theorem call_lenKT (hK : X.K = K := by rfl) (hw : X.w = w := by rfl) : CallR X (.builtin "len") (rLenKT K w) := by
  subst hK hw
  intro pins s σ H xs us Q I r ⟨a, T, e, k, q⟩
  subst e
  obtain ⟨u, rfl, ru⟩ := vals1 r
  cases ru
  obtain ⟨hd, vs, rel, dd⟩ := k.dict (P := X.prog) I.kIn
  have hl : T.length = vs.length := by rw [← rel.length, List.length_map]
  refine call_len_dict hd dd (by have := k.sz; rw [sizeLine_eq] at this; omega) ?_
  rw [← hl]
  exact ⟨.int T.length, H, I.tok _, ⟨_, rfl⟩, q⟩
def rListKT (K : PySem.W.Frag) (w : World) : List V → Hp → VK → Prop := fun xs H Q => ∃ a T, xs = [V.ref a] ∧ KTab K w a T ∧ ∀ p, H p = none → Q (.ref p) (L2.upd H p (.lst (T.map fun q => V.str q.1)))
theorem call_listKT (hc : X.calm = true := by rfl) (hK : X.K = K := by rfl) (hw : X.w = w := by rfl) : CallR X (.type "list") (rListKT K w) := by
  subst hK hw
  intro pins s σ H xs us Q I r ⟨p, T, e, k, q⟩
  subst e
  obtain ⟨u, eu, rx⟩ := vals1 r
  subst eu
  obtain rfl : u = Value.ref p := rx
  obtain ⟨lo, vs, rk, hd⟩ := k.dict (P := X.prog) I.kIn
  obtain ⟨ep, hat⟩ := hd.dictAt
  have hl : T.length = vs.length := by rw [← rk.length, List.length_map]
  refine PySem.W.kdl_call (PySem.W.kdl_dict (knd := mixKind X.prog X.w) (kvs := vs) (ep := ep) lo) (I.ok.hd hc) hat (by rw [← hl]; exact k.sz) fun h' tk acc' c' hkeep hS hacc => ?_
  refine ⟨.ref s.heap.objs.size, L2.upd H s.heap.objs.size (.lst (T.map fun q => V.str q.1)), I.laid hkeep (Nat.le_refl _) (show ObjOk X.prog X.w _ _ _ (.lst (T.map fun q => V.str q.1)) from ⟨?_, acc'.toList, c', ?_, ?_⟩), rfl, q _ (I.hok.fresh (Nat.le_refl _))⟩
  · rw [List.length_map]; exact k.sz
  · have el : acc'.toList.length = acc'.size := by simp
    refine vals_of_at (by rw [List.length_map, el, hacc.1, hl]) fun j x w' h1 h2 => ?_
    obtain ⟨kk, y, hky, hi⟩ := hacc.2 j w' (by rw [← Array.getElem?_toList]; exact h2)
    have e1 : ((T.map fun p => ((Sum.inr p.1 : L2.Key), p.2)).map (·.1))[j]? = some kk := by
      rw [KV.keys rk, List.getElem?_map, hky]
      rfl
    rw [List.map_map, List.getElem?_map] at e1
    obtain ⟨t, e2, e3⟩ := Option.map_eq_some_iff.mp e1
    rw [List.getElem?_map, e2] at h1
    cases h1
    have e4 : kk = Sum.inr t.1 := e3.symm
    subst e4
    exact keyIs_rel (k := Sum.inr t.1) hi
  · rw [Array.toArray_toList]; exact hS
theorem valV_dlk (T : List (Str × V)) (sx : Str) : valV (T.map fun p => ((Sum.inr p.1 : L2.Key), p.2)) (Sum.inr sx) = dlk T sx := by
  induction T with
  | nil => rfl
  | cons p T ih =>
    unfold dlk at ih ⊢
    rw [List.map_cons, List.find?_cons]
    by_cases c : p.1 = sx
    · rw [valV_pos (by rw [c])]
      simp [c]
    · rw [valV_neg (fun z => c (Sum.inr.inj z)), ih]
      simp [c]
/-- d.get(k, x) of such a dict -/
def tKGet2 (K : PySem.W.Frag) (w : World) (td ty tx : TE) : TE := fun σ H Q => td σ H fun x H1 => ∃ a T, x = .ref a ∧ KTab K w a T ∧ ty σ H1 fun y H2 => tx σ H2 fun z H3 => ∃ s, y = .str s ∧ Q ((dlk T s).getD z) H3
theorem pe_kget2 {o e f : Expr} {apos cpos : Pos} {td ty tx : TE} (ho : PE X o td) (he : PE X e ty) (hf : PE X f tx) (m : M2 X o "get" apos e f cpos) (hK : X.K = K := by rfl) (hw : X.w = w := by rfl) : PE X (.Call (.Attribute o "get" apos) [e, f] [] cpos) (tKGet2 K w td ty tx) := by
  subst hK hw
  refine ⟨fun pins s σ H Q I h => ?_⟩
  refine wpAny_Call_method m.base m.few m.line PySem.F.plainAttrs_dict PySem.F.slot_dict_get PySem.F.type_dict_get (thn (ho.run pins s σ H _ I h) fun u s1 ⟨x, H1, I1, rx, a, T, ex, k, q1⟩ => ?_)
  subst ex
  obtain rfl : u = Value.ref a := rx
  obtain ⟨hd, vs, rel, dd⟩ := k.dict (P := X.prog) I1.kIn
  refine ⟨dd.typeIs, fun b q => ?_, ?_⟩
  · cases q
    obtain ⟨ob, _, _, h1, h2, _⟩ := dd
    exact ⟨ob, h1, h2.2.1⟩
  rw [m.trees]
  refine Calls.callWith_builtin rfl (Calls.evalArgs_plain (Calls.spliced_cons (thn (he.run pins s1 σ H1 _ I1 q1) fun iv s2 ⟨y, H2, I2, ry, q2⟩ =>
    Calls.spliced_cons (thn (hf.run pins s2 σ H2 _ I2 q2) fun fv s3 ⟨z, H3, I3, rz, sx, ey, q3⟩ => Calls.spliced_nil ?_))))
  subst ey
  obtain ⟨hd, vs, rel, dd⟩ := k.dict (P := X.prog) I3.kIn
  refine call_meetsIn PySem.F.slot_dict_get dd.typeIs PySem.F.entry_dict_get (PySem.F.args_dict_get_3 _ _ _) (meets_dict_get_default (mixKind X.prog X.w) a (kV_is (k := Sum.inr sx) ry) hd fv) ⟨_, dd.mapOf, ⟨(dlk T sx).getD z, H3, I3.tok _, ?_, q3⟩⟩
  have hv := valV_dlk T sx
  rw [← hv]
  exact (rel.val (Sum.inr sx)).getD rz
end
end Toy
namespace Toy
open PySem L2 PySem.Spec PyProof.Rows
/-! ## tuple * int, any number -/
theorem tuple_mul1 (l : Addr) (items : Array Value) (n : Nat) (dd : Option Addr) (sl : Array (Option Value)) (x : Int) (u : Tok) (c0 : (decide (x < -(2 ^ 63)) || decide (x ≥ 2 ^ 63)) = false) (c1 : (items.isEmpty || x == 1) = true) :
    Meets (Builtin.«tuple.__mul__» ⟨[.ref l, .int x u], []⟩) (fun _ R s => s.heap.get? l = some { cls := .type "tuple", dict := dd, data := .seq items n, slots := sl } ∧
      R (.ok (.ret (Value.ref l))) { s with toks := s.toks }) :=
  .of_wp fun prog w A R s h => by
    obtain ⟨hp, g, d, tk, os⟩ := s
    obtain ⟨hl, h⟩ := h
    have f1 := AutoSeq1.idx_int
    wp_walk using wpAny_loadPart' hl
    repeat (first
      | (refine wpAny_ite_false (decide_eq_false (by rw [c0]; exact Bool.false_ne_true)) ?_; wp_walk using wpAny_loadPart' hl)
      | (refine wpAny_ite_true (decide_eq_true c1) ?_; wp_walk using wpAny_loadPart' hl))
    exact ⟨_, rfl, h⟩
theorem tuple_mul0 (l : Addr) (items : Array Value) (n : Nat) (dd : Option Addr) (sl : Array (Option Value)) (x : Int) (u : Tok) (c0 : (decide (x < -(2 ^ 63)) || decide (x ≥ 2 ^ 63)) = false) (c1 : (items.isEmpty || x == 1) = false) (c2 : (decide (x ≤ 0) || items.isEmpty) = true) :
    Meets (Builtin.«tuple.__mul__» ⟨[.ref l, .int x u], []⟩) (fun _ R s => s.heap.get? l = some { cls := .type "tuple", dict := dd, data := .seq items n, slots := sl } ∧
      R (.ok (.ret (Value.ref s.heap.objs.size))) { s with heap := s.heap.push { cls := Value.type "tuple", data := Data.seq #[] }, toks := s.toks }) :=
  .of_wp fun prog w A R s h => by
    obtain ⟨hp, g, d, tk, os⟩ := s
    obtain ⟨hl, h⟩ := h
    have f1 := AutoSeq1.idx_int
    wp_walk using wpAny_loadPart' hl
    repeat (first
      | (refine wpAny_ite_false (decide_eq_false (by rw [c0]; exact Bool.false_ne_true)) ?_; wp_walk using wpAny_loadPart' hl)
      | (refine wpAny_ite_false (decide_eq_false (by rw [c1]; exact Bool.false_ne_true)) ?_; wp_walk using wpAny_loadPart' hl)
      | (refine wpAny_ite_true (decide_eq_true c2) ?_; wp_walk using wpAny_loadPart' hl)
      | (refine wpAny_ite_false (decide_eq_false (by decide)) ?_; wp_walk using wpAny_loadPart' hl))
    exact ⟨_, rfl, h⟩
def rRepTA (K : PySem.W.Frag) : R2 := fun x y H Q => ∃ l k xs, x = .ref l ∧ y = .int k ∧ SqT K H l xs ∧ -1000 ≤ k ∧ k ≤ 1000 ∧ xs.length ≤ 1000 ∧ ((xs = [] ∨ k = 1) → Q (.ref l) H) ∧ (¬ (xs = [] ∨ k = 1) → ∀ p, H p = none → Q (.ref p) (L2.upd H p (.tup (List.replicate k.toNat xs).flatten)))
theorem op_repTA {X : Cx} : OpR X (binaryOp .Mult) (rRepTA X.K) := by
  intro pins s σ H x y v u Q I rx ry h
  obtain ⟨l, k, xs, rfl, rfl, hT, h1, h2, hz, q1, q2⟩ := h
  by_cases hbig : xs ≠ [] ∧ 2 ≤ k
  · exact op_repT pins s σ H _ _ v u Q I rx ry ⟨l, k, xs, rfl, rfl, hT, hbig.1, hbig.2, h2, hz, q2 (fun z => z.elim hbig.1 (by omega))⟩
  cases rx
  obtain ⟨t, rfl⟩ := ry
  obtain ⟨its, r, ⟨⟨cls, dd, data, sl⟩, ho, hc, n, hd⟩, hs⟩ := I.tuple hT
  simp only at hc hd
  subst hc hd
  have hle : its.length = xs.length := r.length.symm
  have c0 : (decide (k < -(2 ^ 63)) || decide (k ≥ 2 ^ 63)) = false := by
    rw [decide_eq_false (by omega), decide_eq_false (by omega)] <;> rfl
  have hemp : its.toArray.isEmpty = decide (xs = []) := by
    cases its with
    | nil =>
      have : xs = [] := List.eq_nil_of_length_eq_zero hle.symm
      rw [this]; rfl
    | cons a b =>
      have : xs ≠ [] := fun e => by rw [e] at hle; cases hle
      rw [decide_eq_false this]; rfl
  by_cases hw : xs = [] ∨ k = 1
  · have c1 : (its.toArray.isEmpty || k == 1) = true := by
      rw [hemp]
      rcases hw with hw | hw
      · rw [decide_eq_true hw, Bool.true_or]
      · rw [hw]; simp
    refine wpAny_binaryOp_repeat_ref (T := "tuple") (U := "int") (by decide) ⟨_, ho, rfl⟩ (fun s' => typeIs_int s' k t) noFill_tuple_mul F.fills_int_mul F.slot_int_rmul repeat_tuple F.slot_int_index.lookup
      (call_meets F.slot_int_rmul (typeIs_int s k t) F.entry_int_rmul (F.args_int_rmul_2 _ _) (int_rmul_tuple k t l its.toArray n dd sl)
        ⟨ho, rfl, ⟨_, ho, rfl⟩, call_meets F.slot_tuple_mul ⟨_, ho, rfl⟩ F.entry_tuple_mul (F.args_tuple_mul_2 _ _) (tuple_mul1 l its.toArray n dd sl k t c0 c1) ⟨ho, ?_⟩⟩)
    exact ⟨.ref l, H, I.tok _, rfl, q1 hw⟩
  · have hne : xs ≠ [] := fun e => hw (.inl e)
    have c1 : (its.toArray.isEmpty || k == 1) = false := by
      rw [hemp, decide_eq_false hne, Bool.false_or]
      exact beq_eq_false_iff_ne.mpr fun e => hw (.inr e)
    have k0 : k ≤ 0 := by
      have : ¬ 2 ≤ k := fun z => hbig ⟨hne, z⟩
      have : k ≠ 1 := fun e => hw (.inr e)
      omega
    have c2 : (decide (k ≤ 0) || its.toArray.isEmpty) = true := by rw [decide_eq_true k0, Bool.true_or]
    refine wpAny_binaryOp_repeat_ref (T := "tuple") (U := "int") (by decide) ⟨_, ho, rfl⟩ (fun s' => typeIs_int s' k t) noFill_tuple_mul F.fills_int_mul F.slot_int_rmul repeat_tuple F.slot_int_index.lookup
      (call_meets F.slot_int_rmul (typeIs_int s k t) F.entry_int_rmul (F.args_int_rmul_2 _ _) (int_rmul_tuple k t l its.toArray n dd sl)
        ⟨ho, rfl, ⟨_, ho, rfl⟩, call_meets F.slot_tuple_mul ⟨_, ho, rfl⟩ F.entry_tuple_mul (F.args_tuple_mul_2 _ _) (tuple_mul0 l its.toArray n dd sl k t c0 c1 c2) ⟨ho, ?_⟩⟩)
    have e : (List.replicate k.toNat xs).flatten = [] := by rw [show k.toNat = 0 by omega]; rfl
    have q := q2 hw
    rw [e] at q
    refine ⟨.ref s.heap.objs.size, _, I.laid (t' := s.toks) (o := .tup []) (fun b ob q => Heap.get?_push_of_some _ q) (Nat.le_refl _) ?_, rfl, q _ (I.hok.fresh (Nat.le_refl _))⟩
    exact ⟨Nat.zero_le _, [], .nil, IsTup.new _ _⟩
/-! ## membership of texts -/
theorem inV_str (x : Str) : ∀ ss : List Str, inV (.str x) (ss.map V.str) = decide (x ∈ ss)
  | [] => rfl
  | y :: ss => by
    have ih := inV_str x ss
    unfold inV at ih ⊢
    rw [List.map_cons, List.any_cons, ih]
    show ((y == x) || decide (x ∈ ss)) = _
    by_cases c : y = x
    · subst c; simp
    · have : ¬ x = y := fun e => c e.symm
      simp [c, this]
theorem flat_strs (ss : List Str) : (ss.map V.str).all flatV = true := by
  rw [List.all_map, List.all_eq_true]
  intro x _
  rfl
def intsU : List (Str ⊕ Int) → Option (List Int)
  | [] => some []
  | .inr i :: r => (intsU r).map (i :: ·)
  | .inl _ :: _ => none
theorem intsU_inr : ∀ ns : List Int, intsU (ns.map .inr) = some ns
  | [] => rfl
  | n :: ns => by rw [List.map_cons, intsU, intsU_inr ns]; rfl
def PairsQ {α : Type} (K : PySem.W.Frag) (vals : α → List V) : List DictEntry → List (Str × α) → Prop
  | [], [] => True
  | e :: es, p :: ps => (∃ t, e.key = .str p.1 t) ∧ (∃ t, e.val = .ref t ∧ ∃ (o : Obj) (its : Array Value) (n : Nat), K.lookup t = some o ∧ o.cls = .type "tuple" ∧ o.data = .seq its n ∧ its.size ≤ sizeLine ∧ Vals (vals p.2) its.toList) ∧ PairsQ K vals es ps
  | _, _ => False
structure KTabQ {α : Type} (K : PySem.W.Frag) (w : World) (vals : α → List V) (a : Addr) (D : List (Str × α)) : Prop where
  ex : ∃ T, KTab K w a T ∧ All2 (fun (p : Str × V) (q : Str × α) => p.1 = q.1 ∧ ∃ t, p.2 = .ref t ∧ ∀ H, SqT K H t (vals q.2)) T D
theorem pairsQ_T {α : Type} {K : PySem.W.Frag} {vals : α → List V} : ∀ {es : List DictEntry} {D : List (Str × α)}, PairsQ K vals es D → ∃ T, PairsT es T ∧ T.map (·.1) = D.map (·.1) ∧ All2 (fun (p : Str × V) (q : Str × α) => p.1 = q.1 ∧ ∃ t, p.2 = .ref t ∧ ∀ H, SqT K H t (vals q.2)) T D
  | [], [], _ => ⟨[], trivial, rfl, .nil⟩
  | e :: es, p :: ps, ⟨hk, ⟨t, hv, o, its, n, e1, e2, e3, e4, e5⟩, hp⟩ => by
    obtain ⟨T, h1, h2, h3⟩ := pairsQ_T hp
    exact ⟨(p.1, .ref t) :: T, ⟨hk, hv, h1⟩, by rw [List.map_cons, List.map_cons, h2], .cons ⟨rfl, t, rfl, fun H => .inr ⟨o, its, n, e1, e2, e3, e4, e5⟩⟩ h3⟩
theorem ktab_of {K : PySem.W.Frag} {w : World} {a : Addr} {T : List (Str × V)} (h : ∃ es n, KDict K w a es n ∧ PairsT es.toList T) (nd : (T.map (·.1)).Nodup) (sz : T.length ≤ sizeLine) : KTab K w a T := ⟨h, nd, sz⟩
theorem ktabQ_of {α : Type} {K : PySem.W.Frag} {w : World} {vals : α → List V} {a : Addr} {D : List (Str × α)} (h : ∃ es n, KDict K w a es n ∧ PairsQ K vals es.toList D) (nd : (D.map (·.1)).Nodup) (sz : D.length ≤ sizeLine) : KTabQ K w vals a D := by
  obtain ⟨es, n, d, p⟩ := h
  obtain ⟨T, h1, h2, h3⟩ := pairsQ_T p
  exact ⟨T, ⟨⟨es, n, d, h1⟩, by rw [h2]; exact nd, by rw [h3.len]; exact sz⟩, h3⟩
theorem dlk_map {α β : Type} (f : α → β) (D : List (Str × α)) (s : Str) : dlk (D.map fun p => (p.1, f p.2)) s = (dlk D s).map f := by
  unfold dlk
  induction D with
  | nil => rfl
  | cons p D ih =>
    rw [List.map_cons, List.find?_cons, List.find?_cons]
    by_cases c : p.1 = s
    · simp [c]
    · simp only [c, decide_false]
      exact ih
theorem kdc_tab {K : PySem.W.Frag} {w : World} {a : Addr} {α : Type} {f : α → V} {D : List (Str × α)} (k : KTab K w a (D.map fun p => (p.1, f p.2))) : KDc K w a f D := fun x v hx => by
  obtain ⟨es, n, d, r, e, h, _⟩ := k.ns x
  obtain ⟨u, e2, e3⟩ := h (f v) (by rw [dlk_map, hx]; rfl)
  exact ⟨es, n, u, d, by rw [e, e2], e3⟩
section
variable {K : PySem.W.Frag} {w : World} {α β : Type} {L R R' : List HA} {Q : VK} {φ : Hp → Prop} {E : El K α} {F : El K β} {v u : V} {a p d : Addr} {us : List V} {σ : L2.St} {ty tx td : TE} {s : Str}
theorem hasT_k (h : ∀ H, SqT K H a us) : HasT K L a us := fun H _ => h H
theorem c_inLsS {ss : List Str} (t : Take (ls (kSt (K := K)) p ss) L R) (q : Ent L (Q (.bl (decide (s ∈ ss))))) : Ent L fun H => rIn K false (.str s) (.ref p) H Q := fun H h => by
  obtain ⟨vs, h1, h2⟩ := t.ls h
  obtain rfl := strs_of h2
  exact ⟨p, _, rfl, .inl (SqL.of h1), rfl, flat_strs _, by rw [inV_str]; exact q H h⟩
theorem c_niLsS {ss : List Str} (t : Take (ls (kSt (K := K)) p ss) L R) (q : Ent L (Q (.bl (!decide (s ∈ ss))))) : Ent L fun H => rIn K true (.str s) (.ref p) H Q := fun H h => by
  obtain ⟨vs, h1, h2⟩ := t.ls h
  obtain rfl := strs_of h2
  exact ⟨p, _, rfl, .inl (SqL.of h1), rfl, flat_strs _, by rw [inV_str]; exact q H h⟩
theorem c_inHS (ss : List Str) (h : HasT K L p (ss.map V.str)) (q : Ent L (Q (.bl (decide (s ∈ ss))))) : Ent L fun H => rIn K false (.str s) (.ref p) H Q := fun H z =>
  ⟨p, _, rfl, .inr (h H z), rfl, flat_strs _, by rw [inV_str]; exact q H z⟩
theorem c_niHS (ss : List Str) (h : HasT K L p (ss.map V.str)) (q : Ent L (Q (.bl (!decide (s ∈ ss))))) : Ent L fun H => rIn K true (.str s) (.ref p) H Q := fun H z =>
  ⟨p, _, rfl, .inr (h H z), rfl, flat_strs _, by rw [inV_str]; exact q H z⟩
/-! ## tables -/
theorem c_inKT {f : α → V} {D : List (Str × α)} (k : KTab K w d (D.map fun p => (p.1, f p.2))) (q : Ent L (Q (.bl (dlk D s).isSome))) : Ent L fun H => rInKT K w (.str s) (.ref d) H Q := fun H h => ⟨s, d, _, rfl, rfl, k, by rw [dlk_map, Option.isSome_map]; exact q H h⟩
theorem c_niKT {f : α → V} {D : List (Str × α)} (k : KTab K w d (D.map fun p => (p.1, f p.2))) (q : Ent L (Q (.bl (!(dlk D s).isSome)))) : Ent L fun H => rNiKT K w (.str s) (.ref d) H Q := fun H h => ⟨s, d, _, rfl, rfl, k, by rw [dlk_map, Option.isSome_map]; exact q H h⟩
theorem dlk_all2 {T : List (Str × V)} {D : List (Str × α)} {P : V → α → Prop} (h : All2 (fun (p : Str × V) (q : Str × α) => p.1 = q.1 ∧ P p.2 q.2) T D) : (dlk T s).isSome = (dlk D s).isSome ∧ ∀ x, dlk D s = some x → ∃ v, dlk T s = some v ∧ P v x := by
  unfold dlk
  induction h with
  | nil => exact ⟨rfl, fun x e => (by cases e)⟩
  | @cons p q ps qs hp _ ih =>
    rw [List.find?_cons, List.find?_cons, hp.1]
    by_cases c : q.1 = s
    · simp only [c, decide_true]
      exact ⟨rfl, fun x e => ⟨p.2, rfl, by cases e; exact hp.2⟩⟩
    · simp only [c, decide_false]
      exact ih
theorem c_inKQ {vals : α → List V} {D : List (Str × α)} (k : KTabQ K w vals d D) (q : Ent L (Q (.bl (dlk D s).isSome))) : Ent L fun H => rInKT K w (.str s) (.ref d) H Q := fun H h => by
  obtain ⟨T, k1, h1⟩ := k.ex
  exact ⟨s, d, T, rfl, rfl, k1, by rw [(dlk_all2 (P := fun v x => ∃ t, v = .ref t ∧ ∀ H, SqT K H t (vals x)) h1).1]; exact q H h⟩
theorem c_niKQ {vals : α → List V} {D : List (Str × α)} (k : KTabQ K w vals d D) (q : Ent L (Q (.bl (!(dlk D s).isSome)))) : Ent L fun H => rNiKT K w (.str s) (.ref d) H Q := fun H h => by
  obtain ⟨T, k1, h1⟩ := k.ex
  exact ⟨s, d, T, rfl, rfl, k1, by rw [(dlk_all2 (P := fun v x => ∃ t, v = .ref t ∧ ∀ H, SqT K H t (vals x)) h1).1]; exact q H h⟩
theorem c_ixDQ {vals : α → List V} {D : List (Str × α)} {k : α → Prop} (hm : obx (dlk D s) k) (t : KTabQ K w vals d D) (q : ∀ x, k x → ∀ c, Ent (tq K c (vals x) :: L) (Q (.ref c))) : Ent L fun H => rIxD K w (.ref d) (.str s) H Q := fun H h => by
  obtain ⟨x, e, hk⟩ := hm
  obtain ⟨T, k1, h1⟩ := t.ex
  obtain ⟨v, e2, c, e3, hs⟩ := (dlk_all2 (P := fun v x => ∃ t, v = .ref t ∧ ∀ H, SqT K H t (vals x)) h1).2 x e
  obtain ⟨es, n, D', r, e4, h4, _⟩ := k1.ns s
  obtain ⟨u, e5, ru⟩ := h4 v e2
  refine ⟨d, s, v, rfl, rfl, ⟨es, n, u, D'.at_, D'.lit, by rw [e4, e5], ru⟩, ?_⟩
  rw [e3]
  obtain ⟨S, h⟩ := h
  exact q x hk c H ⟨S, fun _ => False, S, ⟨hs H, fun b q => q⟩, h, fun b e q => e, fun b => ⟨.inr, fun z => z.elim (fun z => z.elim) id⟩⟩
theorem c_lenKT {T : List (Str × V)} (k : KTab K w d T) (q : Ent L (Q (.int T.length))) : Ent L fun H => rLenKT K w [.ref d] H Q := fun H h => ⟨d, T, rfl, k, q H h⟩
theorem c_listKT {f : α → V} {D : List (Str × α)} (k : KTab K w d (D.map fun p => (p.1, f p.2))) (hs : (D.all fun p => PyData.strOk p.1) = true) (q : ∀ p, Ent (ls (kSt (K := K)) p (D.map (·.1)) :: L) (Q (.ref p))) : Ent L fun H => rListKT K w [.ref d] H Q := fun H h => by
  refine ⟨d, _, rfl, k, fun p np => q p _ ?_⟩
  rw [List.map_map]
  refine h.ls_new np ?_
  rw [List.all_eq_true] at hs
  clear q k
  induction D with
  | nil => exact .nil
  | cons x D ih => exact .cons ⟨rfl, hs x (List.mem_cons_self ..)⟩ (ih fun y hy => hs y (List.mem_cons_of_mem _ hy))
def kKG (K : PySem.W.Frag) (w : World) (ty tx : TE) (σ : L2.St) (Q : VK) (x : V) (H1 : Hp) : Prop := ∃ a T, x = .ref a ∧ KTab K w a T ∧ ty σ H1 fun y H2 => tx σ H2 fun z H3 => ∃ s, y = .str s ∧ Q ((dlk T s).getD z) H3
def kKGD (T : List (Str × V)) (Q : VK) (y z : V) (H3 : Hp) : Prop := ∃ s, y = .str s ∧ Q ((dlk T s).getD z) H3
theorem e_kget0 (q : Ent L fun H => td σ H fun x H1 => kKG K w ty tx σ Q x H1) : Ent L fun H => tKGet2 K w td ty tx σ H Q := q
theorem c_kget1 {T : List (Str × V)} (k : KTab K w d T) (q : Ent L fun H => ty σ H fun y H2 => tx σ H2 fun z H3 => kKGD T Q y z H3) : Ent L fun H => kKG K w ty tx σ Q (.ref d) H := fun H h => ⟨d, T, rfl, k, q H h⟩
theorem c_kget2S {D : List (Str × Str)} {z : Str} (q : Ent L (Q (.str ((dlk D s).getD z)))) : Ent L fun H => kKGD (D.map fun p => (p.1, V.str p.2)) Q (.str s) (.str z) H := fun H h => ⟨s, rfl, by
  rw [dlk_map]
  have e : ((dlk D s).map V.str).getD (.str z) = .str ((dlk D s).getD z) := by cases dlk D s <;> rfl
  rw [e]
  exact q H h⟩
theorem c_kget2I {D : List (Str × Int)} {z : Int} (q : Ent L (Q (.int ((dlk D s).getD z)))) : Ent L fun H => kKGD (D.map fun p => (p.1, V.int p.2)) Q (.str s) (.int z) H := fun H h => ⟨s, rfl, by
  rw [dlk_map]
  have e : ((dlk D s).map V.int).getD (.int z) = .int ((dlk D s).getD z) := by cases dlk D s <;> rfl
  rw [e]
  exact q H h⟩
/-! ## a text or a number -/
theorem c_getU0S {o : Str ⊕ β} {k : Str → Prop} (hm : obu0 o k) (t : Take (vl (kU (kSt (K := K)) F) v o) L R) (q : ∀ w, k w → v = .str w → Ent L φ) : Ent L φ := fun H h => by
  obtain ⟨w, e, hk⟩ : ∃ w, o = .inl w ∧ k w := by
    cases o with
    | inl x => rw [obu0_l] at hm; exact ⟨x, rfl, hm⟩
    | inr w => simp [obu0] at hm
  subst e
  obtain ⟨S, S1, S2, h1, _⟩ := t.to h
  exact q w hk h1.1.1 H h
theorem c_isiUS {o : Str ⊕ Int} (t : Take (vl (kU (kSt (K := K)) kI) v o) L R) (q : Ent L (Q (.bl o.isLeft))) : Ent L fun H => rIsi K [v, .ty "str"] H Q := fun H h => by
  have z := t.vl h
  cases o with
  | inl x =>
    obtain ⟨rfl, _⟩ := z
    exact e_isi (r := true) (ty_S x) (.ty _) (kit_ty (by decide +kernel)) q H h
  | inr x =>
    obtain rfl : v = .int x := z
    exact e_isi (r := false) (ty_I x) (.ty _) (kit_ty (by decide +kernel)) q H h
/-! ## tuples of any length, however they stand -/
theorem is_kTu {xs : List α} (t : Take (tu a us) L R) (h : ∀ H, Holds L H → All2 (E.P H) us xs) : Is (kT E) L (.ref a) xs := fun H z => ⟨a, us, rfl, SqT.of (t.im z), h H z⟩
theorem is_kTq {xs : List α} {us : List V} (h : HasT K L a us) (g : ∀ H, Holds L H → All2 (E.P H) us xs) : Is (kT E) L (.ref a) xs := fun H z => ⟨a, us, rfl, h H z, g H z⟩
theorem is_kTr {xs : List β} (h : Is (kT F) L v xs) : Is (kT (kU E F)) L v (xs.map .inr) := fun H z => by
  obtain ⟨a, us, e, h1, h2⟩ := h H z
  refine ⟨a, us, e, h1, ?_⟩
  clear h1 e h
  induction h2 with
  | nil => exact .nil
  | cons hp _ ih => exact .cons hp ih
theorem is_kTl {xs : List α} (h : Is (kT E) L v xs) : Is (kT (kU E F)) L v (xs.map .inl) := fun H z => by
  obtain ⟨a, us, e, h1, h2⟩ := h H z
  refine ⟨a, us, e, h1, ?_⟩
  clear h1 e h
  induction h2 with
  | nil => exact .nil
  | cons hp _ ih => exact .cons hp ih
theorem repTA {X : Cx} (h : X.K = K := by rfl) : OpR X (binaryOp .Mult) (rRepTA K) := h ▸ op_repTA
theorem c_repKT {n : Int} {xs : List α} {k : Prop} (hm : grd (-1000 ≤ n ∧ n ≤ 1000 ∧ xs.length ≤ 1000) k) (h : Is (kT E) L v xs) (q : k → ∀ p, Ent (vl (kT E) (.ref p) (List.replicate n.toNat xs).flatten :: L) (Q (.ref p))) : Ent L fun H => rRepTA K v (.int n) H Q := fun H z => by
  obtain ⟨a, us, rfl, h1, h2⟩ := h H z
  have hq := q hm.2
  refine ⟨a, n, us, rfl, rfl, h1, hm.1.1, hm.1.2.1, by rw [h2.len]; exact hm.1.2.2, fun e => ?_, fun _ p np => ?_⟩
  · refine hq a H (z.vl ?_)
    rcases e with e | e
    · subst e
      cases h2
      have : (List.replicate n.toNat ([] : List α)).flatten = [] := by simp
      rw [this]
      exact ⟨a, [], rfl, h1, .nil⟩
    · subst e
      have : (List.replicate (1 : Int).toNat xs).flatten = xs := by show (List.replicate 1 xs).flatten = xs; simp
      rw [this]
      exact ⟨a, us, rfl, h1, h2⟩
  · have h5 : Holds L (L2.upd H p (.tup (List.replicate n.toNat us).flatten)) := Sub.to (Sub.drop Sub.refl) (z.newI (o := .tup (List.replicate n.toNat us).flatten) np rfl)
    refine hq p _ (h5.vl ⟨p, _, rfl, SqT.of upd_same, ?_⟩)
    have h6 : All2 (E.P (L2.upd H p (.tup (List.replicate n.toNat us).flatten))) us xs := h2.imp fun _ _ y => E.st y (keepI_new np)
    clear hq h5
    generalize L2.upd H p (.tup (List.replicate n.toNat us).flatten) = H' at h6 ⊢
    generalize n.toNat = m
    induction m with
    | zero => exact .nil
    | succ m ih =>
      rw [List.replicate_succ, List.replicate_succ, List.flatten_cons, List.flatten_cons]
      exact h6.app ih
theorem c_catKI {xs ys : List α} {k : Prop} (hm : grd (xs.length + ys.length ≤ 100000) k) (h : Is (kT E) L v xs) (g : Is (kT E) L u ys) (q : k → ∀ p, Ent (vl (kT E) (.ref p) (xs ++ ys) :: L) (Q (.ref p))) : Ent L fun H => rCatA K v u H Q := fun H z => by
  have z2 := (z.vl (h H z)).vl (g H z)
  exact c_catKT (L := vl (kT E) u ys :: vl (kT E) v xs :: L) (take_there take_here) take_here hm (fun hk p => Ent.sub (Sub.cons (Sub.drop (Sub.drop Sub.refl))) (q hk p)) H z2
theorem c_slKI {xs : List α} {lo hi : Option Int} (h : Is (kT E) L v xs) (q : ∀ p, Ent (vl (kT E) (.ref p) (cutA xs lo hi) :: L) (Q (.ref p))) : Ent L fun H => rSlA K v lo hi H Q := fun H z => by
  have z2 := z.vl (h H z)
  exact c_slKT (L := vl (kT E) v xs :: L) take_here (fun p => Ent.sub (Sub.cons (Sub.drop Sub.refl)) (q p)) H z2
/-! ## sets of a tuple's numbers -/
def rSetTI (w : World) (K : PySem.W.Frag) : List V → Hp → VK → Prop := fun xs H Q => ∃ (l : Addr) (ns : List Int), xs = [V.ref l] ∧ SqT K H l (ns.map V.int) ∧ ns.length + 1 < scanBound ∧
  ∀ (p : Addr) (c : Nat), H p = none → c ≤ ns.length → Q (.ref p) (L2.upd H p (SetO w p (fun j => decide (j ∈ ns)) c))
theorem cr_setTI {X : Cx} (hc : X.calm = true := by rfl) (hw : X.w = w := by rfl) (hK : X.K = K := by rfl) : CallR X (.type "set") (rSetTI w K) := by
  subst hw hK
  intro pins s σ H xs us Q I r h
  obtain ⟨l, ns, rfl, hq, hb, q⟩ := h
  rw [Vals.ref1 r]
  obtain ⟨its, rv, pl, hz⟩ := I.tuple hq
  refine call_set_tupI ns (I.ok.hd hc) (show s.heap.IsTuple l its.toArray from pl) (ints_of_vals rv) hb fun h' tk c hS hcn hk => ?_
  exact ⟨.ref _, L2.upd H s.heap.objs.size (SetO X.w s.heap.objs.size (fun j => decide (j ∈ ns)) c), I.laid (t' := tk) hk (Nat.le_refl _) (setO_new hS), rfl, q _ c (I.hok.fresh (Nat.le_refl _)) hcn⟩
theorem intsU_vals {H : Hp} : ∀ {xs : List (Str ⊕ Int)} {ns : List Int} {vs : List V}, intsU xs = some ns → All2 ((kU (kSt (K := K)) kI).P H) vs xs → vs = ns.map V.int
  | [], ns, _, e, .nil => by cases e; rfl
  | .inr i :: r, ns, _, e, .cons h t => by
    obtain ⟨ms, e1, e2⟩ := Option.map_eq_some_iff.mp e
    subst e2
    have h' : _ = V.int i := h
    rw [h', intsU_vals e1 t]
    rfl
theorem c_setU {xs : List (Str ⊕ Int)} {k : List Int → Prop} (hm : obx (intsU xs) fun ns => grd (ns.length < 64) (k ns)) (t : Take (vl (kT (kU (kSt (K := K)) kI)) v xs) L R) (q : ∀ ns, k ns → ∀ p c, c < 64 → Ent (pt p (SetO w p (fun j => decide (j ∈ ns)) c) :: L) (Q (.ref p))) : Ent L fun H => rSetTI w K [v] H Q := fun H h => by
  obtain ⟨ns, e, hl, hk⟩ := hm
  obtain ⟨a, vs, rfl, h1, h2⟩ := t.vl h
  obtain rfl := intsU_vals e h2
  exact ⟨a, ns, rfl, h1, by unfold scanBound; omega, fun p c np hc => q ns hk p c (by omega) _ (h.new np rfl)⟩
end
theorem c_inS1 {K : PySem.W.Frag} {L : List HA} {Q : VK} {s x0 : Str} {p : Addr} (h : HasT K L p [.str x0]) (q : Ent L (Q (.bl (decide (s ∈ ([x0] : List Str)))))) : Ent L fun H => rIn K false (.str s) (.ref p) H Q := c_inHS [x0] h q
theorem c_niS1 {K : PySem.W.Frag} {L : List HA} {Q : VK} {s x0 : Str} {p : Addr} (h : HasT K L p [.str x0]) (q : Ent L (Q (.bl (!decide (s ∈ ([x0] : List Str)))))) : Ent L fun H => rIn K true (.str s) (.ref p) H Q := c_niHS [x0] h q
theorem c_inS2 {K : PySem.W.Frag} {L : List HA} {Q : VK} {s x0 x1 : Str} {p : Addr} (h : HasT K L p [.str x0, .str x1]) (q : Ent L (Q (.bl (decide (s ∈ ([x0, x1] : List Str)))))) : Ent L fun H => rIn K false (.str s) (.ref p) H Q := c_inHS [x0, x1] h q
theorem c_niS2 {K : PySem.W.Frag} {L : List HA} {Q : VK} {s x0 x1 : Str} {p : Addr} (h : HasT K L p [.str x0, .str x1]) (q : Ent L (Q (.bl (!decide (s ∈ ([x0, x1] : List Str)))))) : Ent L fun H => rIn K true (.str s) (.ref p) H Q := c_niHS [x0, x1] h q
theorem c_inS3 {K : PySem.W.Frag} {L : List HA} {Q : VK} {s x0 x1 x2 : Str} {p : Addr} (h : HasT K L p [.str x0, .str x1, .str x2]) (q : Ent L (Q (.bl (decide (s ∈ ([x0, x1, x2] : List Str)))))) : Ent L fun H => rIn K false (.str s) (.ref p) H Q := c_inHS [x0, x1, x2] h q
theorem c_niS3 {K : PySem.W.Frag} {L : List HA} {Q : VK} {s x0 x1 x2 : Str} {p : Addr} (h : HasT K L p [.str x0, .str x1, .str x2]) (q : Ent L (Q (.bl (!decide (s ∈ ([x0, x1, x2] : List Str)))))) : Ent L fun H => rIn K true (.str s) (.ref p) H Q := c_niHS [x0, x1, x2] h q
theorem c_inS4 {K : PySem.W.Frag} {L : List HA} {Q : VK} {s x0 x1 x2 x3 : Str} {p : Addr} (h : HasT K L p [.str x0, .str x1, .str x2, .str x3]) (q : Ent L (Q (.bl (decide (s ∈ ([x0, x1, x2, x3] : List Str)))))) : Ent L fun H => rIn K false (.str s) (.ref p) H Q := c_inHS [x0, x1, x2, x3] h q
theorem c_niS4 {K : PySem.W.Frag} {L : List HA} {Q : VK} {s x0 x1 x2 x3 : Str} {p : Addr} (h : HasT K L p [.str x0, .str x1, .str x2, .str x3]) (q : Ent L (Q (.bl (!decide (s ∈ ([x0, x1, x2, x3] : List Str)))))) : Ent L fun H => rIn K true (.str s) (.ref p) H Q := c_niHS [x0, x1, x2, x3] h q
theorem c_inS5 {K : PySem.W.Frag} {L : List HA} {Q : VK} {s x0 x1 x2 x3 x4 : Str} {p : Addr} (h : HasT K L p [.str x0, .str x1, .str x2, .str x3, .str x4]) (q : Ent L (Q (.bl (decide (s ∈ ([x0, x1, x2, x3, x4] : List Str)))))) : Ent L fun H => rIn K false (.str s) (.ref p) H Q := c_inHS [x0, x1, x2, x3, x4] h q
theorem c_niS5 {K : PySem.W.Frag} {L : List HA} {Q : VK} {s x0 x1 x2 x3 x4 : Str} {p : Addr} (h : HasT K L p [.str x0, .str x1, .str x2, .str x3, .str x4]) (q : Ent L (Q (.bl (!decide (s ∈ ([x0, x1, x2, x3, x4] : List Str)))))) : Ent L fun H => rIn K true (.str s) (.ref p) H Q := c_niHS [x0, x1, x2, x3, x4] h q
theorem c_inS6 {K : PySem.W.Frag} {L : List HA} {Q : VK} {s x0 x1 x2 x3 x4 x5 : Str} {p : Addr} (h : HasT K L p [.str x0, .str x1, .str x2, .str x3, .str x4, .str x5]) (q : Ent L (Q (.bl (decide (s ∈ ([x0, x1, x2, x3, x4, x5] : List Str)))))) : Ent L fun H => rIn K false (.str s) (.ref p) H Q := c_inHS [x0, x1, x2, x3, x4, x5] h q
theorem c_niS6 {K : PySem.W.Frag} {L : List HA} {Q : VK} {s x0 x1 x2 x3 x4 x5 : Str} {p : Addr} (h : HasT K L p [.str x0, .str x1, .str x2, .str x3, .str x4, .str x5]) (q : Ent L (Q (.bl (!decide (s ∈ ([x0, x1, x2, x3, x4, x5] : List Str)))))) : Ent L fun H => rIn K true (.str s) (.ref p) H Q := c_niHS [x0, x1, x2, x3, x4, x5] h q
theorem c_inS7 {K : PySem.W.Frag} {L : List HA} {Q : VK} {s x0 x1 x2 x3 x4 x5 x6 : Str} {p : Addr} (h : HasT K L p [.str x0, .str x1, .str x2, .str x3, .str x4, .str x5, .str x6]) (q : Ent L (Q (.bl (decide (s ∈ ([x0, x1, x2, x3, x4, x5, x6] : List Str)))))) : Ent L fun H => rIn K false (.str s) (.ref p) H Q := c_inHS [x0, x1, x2, x3, x4, x5, x6] h q
theorem c_niS7 {K : PySem.W.Frag} {L : List HA} {Q : VK} {s x0 x1 x2 x3 x4 x5 x6 : Str} {p : Addr} (h : HasT K L p [.str x0, .str x1, .str x2, .str x3, .str x4, .str x5, .str x6]) (q : Ent L (Q (.bl (!decide (s ∈ ([x0, x1, x2, x3, x4, x5, x6] : List Str)))))) : Ent L fun H => rIn K true (.str s) (.ref p) H Q := c_niHS [x0, x1, x2, x3, x4, x5, x6] h q
theorem c_inS8 {K : PySem.W.Frag} {L : List HA} {Q : VK} {s x0 x1 x2 x3 x4 x5 x6 x7 : Str} {p : Addr} (h : HasT K L p [.str x0, .str x1, .str x2, .str x3, .str x4, .str x5, .str x6, .str x7]) (q : Ent L (Q (.bl (decide (s ∈ ([x0, x1, x2, x3, x4, x5, x6, x7] : List Str)))))) : Ent L fun H => rIn K false (.str s) (.ref p) H Q := c_inHS [x0, x1, x2, x3, x4, x5, x6, x7] h q
theorem c_niS8 {K : PySem.W.Frag} {L : List HA} {Q : VK} {s x0 x1 x2 x3 x4 x5 x6 x7 : Str} {p : Addr} (h : HasT K L p [.str x0, .str x1, .str x2, .str x3, .str x4, .str x5, .str x6, .str x7]) (q : Ent L (Q (.bl (!decide (s ∈ ([x0, x1, x2, x3, x4, x5, x6, x7] : List Str)))))) : Ent L fun H => rIn K true (.str s) (.ref p) H Q := c_niHS [x0, x1, x2, x3, x4, x5, x6, x7] h q
theorem c_inS9 {K : PySem.W.Frag} {L : List HA} {Q : VK} {s x0 x1 x2 x3 x4 x5 x6 x7 x8 : Str} {p : Addr} (h : HasT K L p [.str x0, .str x1, .str x2, .str x3, .str x4, .str x5, .str x6, .str x7, .str x8]) (q : Ent L (Q (.bl (decide (s ∈ ([x0, x1, x2, x3, x4, x5, x6, x7, x8] : List Str)))))) : Ent L fun H => rIn K false (.str s) (.ref p) H Q := c_inHS [x0, x1, x2, x3, x4, x5, x6, x7, x8] h q
theorem c_niS9 {K : PySem.W.Frag} {L : List HA} {Q : VK} {s x0 x1 x2 x3 x4 x5 x6 x7 x8 : Str} {p : Addr} (h : HasT K L p [.str x0, .str x1, .str x2, .str x3, .str x4, .str x5, .str x6, .str x7, .str x8]) (q : Ent L (Q (.bl (!decide (s ∈ ([x0, x1, x2, x3, x4, x5, x6, x7, x8] : List Str)))))) : Ent L fun H => rIn K true (.str s) (.ref p) H Q := c_niHS [x0, x1, x2, x3, x4, x5, x6, x7, x8] h q
theorem c_inS10 {K : PySem.W.Frag} {L : List HA} {Q : VK} {s x0 x1 x2 x3 x4 x5 x6 x7 x8 x9 : Str} {p : Addr} (h : HasT K L p [.str x0, .str x1, .str x2, .str x3, .str x4, .str x5, .str x6, .str x7, .str x8, .str x9]) (q : Ent L (Q (.bl (decide (s ∈ ([x0, x1, x2, x3, x4, x5, x6, x7, x8, x9] : List Str)))))) : Ent L fun H => rIn K false (.str s) (.ref p) H Q := c_inHS [x0, x1, x2, x3, x4, x5, x6, x7, x8, x9] h q
theorem c_niS10 {K : PySem.W.Frag} {L : List HA} {Q : VK} {s x0 x1 x2 x3 x4 x5 x6 x7 x8 x9 : Str} {p : Addr} (h : HasT K L p [.str x0, .str x1, .str x2, .str x3, .str x4, .str x5, .str x6, .str x7, .str x8, .str x9]) (q : Ent L (Q (.bl (!decide (s ∈ ([x0, x1, x2, x3, x4, x5, x6, x7, x8, x9] : List Str)))))) : Ent L fun H => rIn K true (.str s) (.ref p) H Q := c_niHS [x0, x1, x2, x3, x4, x5, x6, x7, x8, x9] h q
theorem c_inS11 {K : PySem.W.Frag} {L : List HA} {Q : VK} {s x0 x1 x2 x3 x4 x5 x6 x7 x8 x9 x10 : Str} {p : Addr} (h : HasT K L p [.str x0, .str x1, .str x2, .str x3, .str x4, .str x5, .str x6, .str x7, .str x8, .str x9, .str x10]) (q : Ent L (Q (.bl (decide (s ∈ ([x0, x1, x2, x3, x4, x5, x6, x7, x8, x9, x10] : List Str)))))) : Ent L fun H => rIn K false (.str s) (.ref p) H Q := c_inHS [x0, x1, x2, x3, x4, x5, x6, x7, x8, x9, x10] h q
theorem c_niS11 {K : PySem.W.Frag} {L : List HA} {Q : VK} {s x0 x1 x2 x3 x4 x5 x6 x7 x8 x9 x10 : Str} {p : Addr} (h : HasT K L p [.str x0, .str x1, .str x2, .str x3, .str x4, .str x5, .str x6, .str x7, .str x8, .str x9, .str x10]) (q : Ent L (Q (.bl (!decide (s ∈ ([x0, x1, x2, x3, x4, x5, x6, x7, x8, x9, x10] : List Str)))))) : Ent L fun H => rIn K true (.str s) (.ref p) H Q := c_niHS [x0, x1, x2, x3, x4, x5, x6, x7, x8, x9, x10] h q
theorem c_inS12 {K : PySem.W.Frag} {L : List HA} {Q : VK} {s x0 x1 x2 x3 x4 x5 x6 x7 x8 x9 x10 x11 : Str} {p : Addr} (h : HasT K L p [.str x0, .str x1, .str x2, .str x3, .str x4, .str x5, .str x6, .str x7, .str x8, .str x9, .str x10, .str x11]) (q : Ent L (Q (.bl (decide (s ∈ ([x0, x1, x2, x3, x4, x5, x6, x7, x8, x9, x10, x11] : List Str)))))) : Ent L fun H => rIn K false (.str s) (.ref p) H Q := c_inHS [x0, x1, x2, x3, x4, x5, x6, x7, x8, x9, x10, x11] h q
theorem c_niS12 {K : PySem.W.Frag} {L : List HA} {Q : VK} {s x0 x1 x2 x3 x4 x5 x6 x7 x8 x9 x10 x11 : Str} {p : Addr} (h : HasT K L p [.str x0, .str x1, .str x2, .str x3, .str x4, .str x5, .str x6, .str x7, .str x8, .str x9, .str x10, .str x11]) (q : Ent L (Q (.bl (!decide (s ∈ ([x0, x1, x2, x3, x4, x5, x6, x7, x8, x9, x10, x11] : List Str)))))) : Ent L fun H => rIn K true (.str s) (.ref p) H Q := c_niHS [x0, x1, x2, x3, x4, x5, x6, x7, x8, x9, x10, x11] h q
section
variable {K : PySem.W.Frag} {w : World} {α β : Type} {L R : List HA} {Q : VK} {E : El K α} {v x : V} {σ : L2.St} {te ta : TE} {s : Str} {d : Addr}
/-- a comprehension over a tuple -/
def kLcT (K : PySem.W.Frag) (g : TG) (tt : TT) (te : TE) (vs : List Nat) (σ : L2.St) (Q : VK) (x : V) (H : Hp) : Prop := tLc (iTup K (tC x)) g tt te vs σ H Q
theorem e_lcT0 {g : TG} {tt : TT} {vs : List Nat} (q : Ent L fun H => ta σ H fun x H1 => kLcT K g tt te vs σ Q x H1) : Ent L fun H => tLc (iTup K ta) g tt te vs σ H Q := q
theorem c_lcKT {xs : List α} {bd : α → (Option β → Prop) → Prop} {k : List β → Prop} {g : TG} {tt : TT} {vs : List Nat} (E' : El K β) (hm : grd (xs.length ≤ 100000) (lcL xs [] bd k)) (t : Is (kT E) L v xs)
    (step : ∀ x (nxt : Option β → Prop), bd x nxt → ∀ v D ys (r : VK) (s : Hp → Prop), (∀ v' y, nxt (some y) → Ent (vl E' v' y :: ls E' D ys :: L) (r v')) → (nxt none → Ent (ls E' D ys :: L) s) → Ent (vl E v x :: ls E' D ys :: L) fun H => g v (wipe σ vs) H fun σ2 H2 => wipe σ2 vs = wipe σ vs ∧ tt σ2 H2 fun b H3 => if b = true then te σ2 H3 r else s H3)
    (q : ∀ ys, k ys → ∀ D, Ent (ls E' D ys :: L) (Q (.ref D))) : Ent L fun H => kLcT K g tt te vs σ Q v H := fun H h => by
  obtain ⟨a, ws, rfl, h1, _⟩ := t H h
  refine ⟨_, rfl, ⟨ws, h1⟩, lcSq_core E' walk_sqT (fun H h => ?_) hm step q h⟩
  obtain ⟨b, us, e, z1, z2⟩ := t H h
  cases e
  exact ⟨us, z1, z2⟩
theorem c_inSqS {xs : List Str} (h : SqAt (kSt (K := K)) L v xs) (q : Ent L (Q (.bl (decide (s ∈ xs))))) : Ent L fun H => rIn K false (.str s) v H Q := fun H z => by
  cases h with
  | lst h =>
    obtain ⟨vs, h1, h2⟩ := h H z
    obtain rfl := strs_of h2
    exact ⟨_, _, rfl, .inl h1, rfl, flat_strs _, by rw [inV_str]; exact q H z⟩
  | tup h =>
    obtain ⟨a, vs, rfl, h1, h2⟩ := h H z
    obtain rfl := strs_of h2
    exact ⟨_, _, rfl, .inr h1, rfl, flat_strs _, by rw [inV_str]; exact q H z⟩
theorem c_niSqS {xs : List Str} (h : SqAt (kSt (K := K)) L v xs) (q : Ent L (Q (.bl (!decide (s ∈ xs))))) : Ent L fun H => rIn K true (.str s) v H Q := fun H z => by
  cases h with
  | lst h =>
    obtain ⟨vs, h1, h2⟩ := h H z
    obtain rfl := strs_of h2
    exact ⟨_, _, rfl, .inl h1, rfl, flat_strs _, by rw [inV_str]; exact q H z⟩
  | tup h =>
    obtain ⟨a, vs, rfl, h1, h2⟩ := h H z
    obtain rfl := strs_of h2
    exact ⟨_, _, rfl, .inr h1, rfl, flat_strs _, by rw [inV_str]; exact q H z⟩
theorem c_lenKTD {f : α → V} {D : List (Str × α)} (k : KTab K w d (D.map fun p => (p.1, f p.2))) (q : Ent L (Q (.int D.length))) : Ent L fun H => rLenKT K w [.ref d] H Q := fun H h => ⟨d, _, rfl, k, by rw [List.length_map]; exact q H h⟩
theorem c_inI1 {i x0 : Int} {p : Addr} (h : HasT K L p [.int x0]) (q : Ent L (Q (.bl (decide (i ∈ ([x0] : List Int)))))) : Ent L fun H => rIn K false (.int i) (.ref p) H Q := fun H z => ⟨p, [x0].map V.int, rfl, .inr (h H z), rfl, flat_ints _, by rw [inV_int]; exact q H z⟩
theorem c_niI1 {i x0 : Int} {p : Addr} (h : HasT K L p [.int x0]) (q : Ent L (Q (.bl (!decide (i ∈ ([x0] : List Int)))))) : Ent L fun H => rIn K true (.int i) (.ref p) H Q := fun H z => ⟨p, [x0].map V.int, rfl, .inr (h H z), rfl, flat_ints _, by rw [inV_int]; exact q H z⟩
theorem c_inI2 {i x0 x1 : Int} {p : Addr} (h : HasT K L p [.int x0, .int x1]) (q : Ent L (Q (.bl (decide (i ∈ ([x0, x1] : List Int)))))) : Ent L fun H => rIn K false (.int i) (.ref p) H Q := fun H z => ⟨p, [x0, x1].map V.int, rfl, .inr (h H z), rfl, flat_ints _, by rw [inV_int]; exact q H z⟩
theorem c_niI2 {i x0 x1 : Int} {p : Addr} (h : HasT K L p [.int x0, .int x1]) (q : Ent L (Q (.bl (!decide (i ∈ ([x0, x1] : List Int)))))) : Ent L fun H => rIn K true (.int i) (.ref p) H Q := fun H z => ⟨p, [x0, x1].map V.int, rfl, .inr (h H z), rfl, flat_ints _, by rw [inV_int]; exact q H z⟩
theorem c_inI3 {i x0 x1 x2 : Int} {p : Addr} (h : HasT K L p [.int x0, .int x1, .int x2]) (q : Ent L (Q (.bl (decide (i ∈ ([x0, x1, x2] : List Int)))))) : Ent L fun H => rIn K false (.int i) (.ref p) H Q := fun H z => ⟨p, [x0, x1, x2].map V.int, rfl, .inr (h H z), rfl, flat_ints _, by rw [inV_int]; exact q H z⟩
theorem c_niI3 {i x0 x1 x2 : Int} {p : Addr} (h : HasT K L p [.int x0, .int x1, .int x2]) (q : Ent L (Q (.bl (!decide (i ∈ ([x0, x1, x2] : List Int)))))) : Ent L fun H => rIn K true (.int i) (.ref p) H Q := fun H z => ⟨p, [x0, x1, x2].map V.int, rfl, .inr (h H z), rfl, flat_ints _, by rw [inV_int]; exact q H z⟩
theorem c_inI4 {i x0 x1 x2 x3 : Int} {p : Addr} (h : HasT K L p [.int x0, .int x1, .int x2, .int x3]) (q : Ent L (Q (.bl (decide (i ∈ ([x0, x1, x2, x3] : List Int)))))) : Ent L fun H => rIn K false (.int i) (.ref p) H Q := fun H z => ⟨p, [x0, x1, x2, x3].map V.int, rfl, .inr (h H z), rfl, flat_ints _, by rw [inV_int]; exact q H z⟩
theorem c_niI4 {i x0 x1 x2 x3 : Int} {p : Addr} (h : HasT K L p [.int x0, .int x1, .int x2, .int x3]) (q : Ent L (Q (.bl (!decide (i ∈ ([x0, x1, x2, x3] : List Int)))))) : Ent L fun H => rIn K true (.int i) (.ref p) H Q := fun H z => ⟨p, [x0, x1, x2, x3].map V.int, rfl, .inr (h H z), rfl, flat_ints _, by rw [inV_int]; exact q H z⟩
theorem c_inI5 {i x0 x1 x2 x3 x4 : Int} {p : Addr} (h : HasT K L p [.int x0, .int x1, .int x2, .int x3, .int x4]) (q : Ent L (Q (.bl (decide (i ∈ ([x0, x1, x2, x3, x4] : List Int)))))) : Ent L fun H => rIn K false (.int i) (.ref p) H Q := fun H z => ⟨p, [x0, x1, x2, x3, x4].map V.int, rfl, .inr (h H z), rfl, flat_ints _, by rw [inV_int]; exact q H z⟩
theorem c_niI5 {i x0 x1 x2 x3 x4 : Int} {p : Addr} (h : HasT K L p [.int x0, .int x1, .int x2, .int x3, .int x4]) (q : Ent L (Q (.bl (!decide (i ∈ ([x0, x1, x2, x3, x4] : List Int)))))) : Ent L fun H => rIn K true (.int i) (.ref p) H Q := fun H z => ⟨p, [x0, x1, x2, x3, x4].map V.int, rfl, .inr (h H z), rfl, flat_ints _, by rw [inV_int]; exact q H z⟩
theorem c_inI6 {i x0 x1 x2 x3 x4 x5 : Int} {p : Addr} (h : HasT K L p [.int x0, .int x1, .int x2, .int x3, .int x4, .int x5]) (q : Ent L (Q (.bl (decide (i ∈ ([x0, x1, x2, x3, x4, x5] : List Int)))))) : Ent L fun H => rIn K false (.int i) (.ref p) H Q := fun H z => ⟨p, [x0, x1, x2, x3, x4, x5].map V.int, rfl, .inr (h H z), rfl, flat_ints _, by rw [inV_int]; exact q H z⟩
theorem c_niI6 {i x0 x1 x2 x3 x4 x5 : Int} {p : Addr} (h : HasT K L p [.int x0, .int x1, .int x2, .int x3, .int x4, .int x5]) (q : Ent L (Q (.bl (!decide (i ∈ ([x0, x1, x2, x3, x4, x5] : List Int)))))) : Ent L fun H => rIn K true (.int i) (.ref p) H Q := fun H z => ⟨p, [x0, x1, x2, x3, x4, x5].map V.int, rfl, .inr (h H z), rfl, flat_ints _, by rw [inV_int]; exact q H z⟩
theorem c_inI7 {i x0 x1 x2 x3 x4 x5 x6 : Int} {p : Addr} (h : HasT K L p [.int x0, .int x1, .int x2, .int x3, .int x4, .int x5, .int x6]) (q : Ent L (Q (.bl (decide (i ∈ ([x0, x1, x2, x3, x4, x5, x6] : List Int)))))) : Ent L fun H => rIn K false (.int i) (.ref p) H Q := fun H z => ⟨p, [x0, x1, x2, x3, x4, x5, x6].map V.int, rfl, .inr (h H z), rfl, flat_ints _, by rw [inV_int]; exact q H z⟩
theorem c_niI7 {i x0 x1 x2 x3 x4 x5 x6 : Int} {p : Addr} (h : HasT K L p [.int x0, .int x1, .int x2, .int x3, .int x4, .int x5, .int x6]) (q : Ent L (Q (.bl (!decide (i ∈ ([x0, x1, x2, x3, x4, x5, x6] : List Int)))))) : Ent L fun H => rIn K true (.int i) (.ref p) H Q := fun H z => ⟨p, [x0, x1, x2, x3, x4, x5, x6].map V.int, rfl, .inr (h H z), rfl, flat_ints _, by rw [inV_int]; exact q H z⟩
theorem c_inI8 {i x0 x1 x2 x3 x4 x5 x6 x7 : Int} {p : Addr} (h : HasT K L p [.int x0, .int x1, .int x2, .int x3, .int x4, .int x5, .int x6, .int x7]) (q : Ent L (Q (.bl (decide (i ∈ ([x0, x1, x2, x3, x4, x5, x6, x7] : List Int)))))) : Ent L fun H => rIn K false (.int i) (.ref p) H Q := fun H z => ⟨p, [x0, x1, x2, x3, x4, x5, x6, x7].map V.int, rfl, .inr (h H z), rfl, flat_ints _, by rw [inV_int]; exact q H z⟩
theorem c_niI8 {i x0 x1 x2 x3 x4 x5 x6 x7 : Int} {p : Addr} (h : HasT K L p [.int x0, .int x1, .int x2, .int x3, .int x4, .int x5, .int x6, .int x7]) (q : Ent L (Q (.bl (!decide (i ∈ ([x0, x1, x2, x3, x4, x5, x6, x7] : List Int)))))) : Ent L fun H => rIn K true (.int i) (.ref p) H Q := fun H z => ⟨p, [x0, x1, x2, x3, x4, x5, x6, x7].map V.int, rfl, .inr (h H z), rfl, flat_ints _, by rw [inV_int]; exact q H z⟩
end
end Toy
namespace Toy
open PySem L2 PySem.Spec PyProof.Rows RZ
def uD (x : Str ⊕ Int) : PyData := (kU (K := default) kSt kI).d x
section
variable {K : PySem.W.Frag} {α β M B : Type} {L R R' : List HA} {Q : VK} {E : El K α} {F : El K β} {v u : V} {nx bk ct : L2.St → Hp → Prop} {rt : VK} {σ : L2.St} {tas : TA}
theorem e_isBl {a b : Bool} (q : Ent L (Q (.bl (decide (a = b))))) : Ent L fun H => rIsB (.bl a) (.bl b) H Q := fun H h => ⟨a, b, rfl, rfl, q H h⟩
theorem e_notBl {a b : Bool} (q : Ent L (Q (.bl (!decide (a = b))))) : Ent L fun H => rNotB (.bl a) (.bl b) H Q := fun H h => ⟨a, b, rfl, rfl, q H h⟩
/-! ## loops over zip: two tuples, or two lists -/
def kZipA (K : PySem.W.Frag) (R : It → Hp → Prop) (vs : List V) (H1 : Hp) : Prop := ∃ a b xs ys, vs = [.ref a, .ref b] ∧ ((SqL K H1 a xs ∧ SqL K H1 b ys ∧ R (Itz K a b) H1) ∨ (SqT K H1 a xs ∧ SqT K H1 b ys ∧ R (ItzT K a b) H1))
theorem e_forZA {g : TG} {tb : TS} (q : Ent L fun H => tas σ H fun us H1 => kZipA K (kLoop g tb ⟨nx, rt, bk, ct⟩ σ) us H1) : Ent L fun H => tFor (iZipA K tas) g tb ⟨nx, rt, bk, ct⟩ σ H := q
theorem zip_get {xs : List α} {ys : List β} {i : Nat} {x : α} {y : β} (h1 : xs[i]? = some x) (h2 : ys[i]? = some y) : (List.zip xs ys)[i]? = some (x, y) := by
  rw [List.getElem?_zip_eq_some]
  exact ⟨h1, h2⟩
theorem walk_zipT (xs : List α) (ys : List β) (a b : Addr) : Walk (ItzT K a b) (List.zip xs ys).length (fun H => (kT E).P H (.ref a) xs ∧ (kT F).P H (.ref b) ys) (fun i H v H' => ∃ T u w x y, v = .ref T ∧ H T = none ∧ H' = L2.upd H T (.tup [u, w]) ∧ (List.zip xs ys)[i]? = some (x, y) ∧ E.P H u x ∧ F.P H w y) :=
  ⟨fun i H hi ⟨⟨a', us, e, h1, h2⟩, ⟨b', ws, e', g1, g2⟩⟩ => by
    cases e; cases e'
    rw [List.length_zip] at hi
    obtain ⟨u, hu, _⟩ := h2.getR (List.getElem?_eq_getElem (by omega : i < xs.length))
    obtain ⟨w, hw, _⟩ := g2.getR (List.getElem?_eq_getElem (by omega : i < ys.length))
    exact ⟨us, ws, u, w, h1, g1, hu, hw⟩, fun H ⟨⟨a', us, e, h1, h2⟩, ⟨b', ws, e', g1, g2⟩⟩ => by
    cases e; cases e'
    have l1 := h2.len
    have l2 := g2.len
    exact ⟨us, ws, h1, g1, by rw [List.length_zip]; omega⟩, fun i H v H' hi ⟨⟨a', us, e, h1, h2⟩, ⟨b', ws, e', g1, g2⟩⟩ ⟨T, u, w, e1, e2, e3, e4, e5⟩ => by
    cases e; cases e'
    obtain ⟨x, hx, px⟩ := h2.get (e4 us h1)
    obtain ⟨y, hy, py⟩ := g2.get (e5 ws g1)
    exact ⟨T, u, w, x, y, e1, e2, e3, zip_get hx hy, px, py⟩⟩
theorem walk_zipL (xs : List α) (ys : List β) (a b : Addr) : Walk (Itz K a b) (List.zip xs ys).length (fun H => (∃ us, H a = some (.lst us) ∧ All2 (E.P H) us xs) ∧ ∃ ws, H b = some (.lst ws) ∧ All2 (F.P H) ws ys) (fun i H v H' => ∃ T u w x y, v = .ref T ∧ H T = none ∧ H' = L2.upd H T (.tup [u, w]) ∧ (List.zip xs ys)[i]? = some (x, y) ∧ E.P H u x ∧ F.P H w y) :=
  ⟨fun i H hi ⟨⟨us, h1, h2⟩, ⟨ws, g1, g2⟩⟩ => by
    rw [List.length_zip] at hi
    obtain ⟨u, hu, _⟩ := h2.getR (List.getElem?_eq_getElem (by omega : i < xs.length))
    obtain ⟨w, hw, _⟩ := g2.getR (List.getElem?_eq_getElem (by omega : i < ys.length))
    exact ⟨us, ws, u, w, SqL.of h1, SqL.of g1, hu, hw⟩, fun H ⟨⟨us, h1, h2⟩, ⟨ws, g1, g2⟩⟩ => by
    have l1 := h2.len
    have l2 := g2.len
    exact ⟨us, ws, SqL.of h1, SqL.of g1, by rw [List.length_zip]; omega⟩, fun i H v H' hi ⟨⟨us, h1, h2⟩, ⟨ws, g1, g2⟩⟩ ⟨T, u, w, e1, e2, e3, e4, e5⟩ => by
    obtain ⟨x, hx, px⟩ := h2.get (e4 us (SqL.of h1))
    obtain ⟨y, hy, py⟩ := g2.get (e5 ws (SqL.of g1))
    exact ⟨T, u, w, x, y, e1, e2, e3, zip_get hx hy, px, py⟩⟩
theorem forZ_core {J : It} {G : Hp → Prop} {zs : List (α × β)} {m0 : M} {bd : α × β → M → (M → Prop) → (M → Prop) → Prop} {k : M → Prop} {g : TG} {tb : TS} {H : Hp} (w : Walk J zs.length G (fun i H v H' => ∃ T u w x y, v = .ref T ∧ H T = none ∧ H' = L2.upd H T (.tup [u, w]) ∧ zs[i]? = some (x, y) ∧ E.P H u x ∧ F.P H w y))
    (hm : forL zs m0 bd k) (up : M → B → List (Option (Option V))) (Pm : M → B → List HA) (b0 : B) (h0 : σ = upds σ (up m0 b0)) (s0 : Sub L (Pm m0 b0 ++ R)) (hG : ∀ m b H', Holds (Pm m b ++ R) H' → G H')
    (hs : (∀ m b, k m → Ent (Pm m b ++ R) (nx (upds σ (up m b)))) → ∀ x m b (nxt : M → Prop), bd x m nxt k → ∀ T u w, Ent (vl F w x.2 :: vl E u x.1 :: tu T [u, w] :: (Pm m b ++ R)) fun H => g (.ref T) (upds σ (up m b)) H fun σ2 H2 => tb ⟨fun σ' H' => ∃ m b, nxt m ∧ σ' = upds σ (up m b) ∧ Holds (Pm m b ++ R) H', rt, nx, fun σ' H' => ∃ m b, nxt m ∧ σ' = upds σ (up m b) ∧ Holds (Pm m b ++ R) H'⟩ σ2 H2)
    (hd : ∀ m b, k m → Ent (Pm m b ++ R) (nx (upds σ (up m b)))) (h : Holds L H) : kLoop g tb ⟨nx, rt, bk, ct⟩ σ J H := by
  refine w_loop w (fun i σ' H' => ∃ m b, forL (zs.drop i) m bd k ∧ i ≤ zs.length ∧ σ' = upds σ (up m b) ∧ Holds (Pm m b ++ R) H') ⟨m0, b0, hm, Nat.zero_le _, h0, s0.to h⟩ (fun i σ' H' _ ⟨m, b, _, _, _, z⟩ => hG m b H' z) (fun i v σ' H' H'' hi ⟨m, b, hf, _, e, z⟩ ⟨T, u, w', x, y, e2, nT, eH, hx, px, py⟩ => ?_) (fun σ' H' ⟨m, b, hf, _, e, z⟩ => ?_)
  · subst e e2 eH
    have ed : zs.drop i = (x, y) :: zs.drop (i + 1) := by
      rw [List.drop_eq_getElem_cons hi]
      congr 1
      exact Option.some.inj ((List.getElem?_eq_getElem hi).symm.trans hx)
    rw [ed, forL_cons] at hf
    have z1 : Holds (tu T [u, w'] :: (Pm m b ++ R)) (L2.upd H' T (.tup [u, w'])) := z.newI (o := .tup [u, w']) nT rfl
    have z0 : Holds (vl F w' y :: vl E u x :: tu T [u, w'] :: (Pm m b ++ R)) (L2.upd H' T (.tup [u, w'])) := (z1.vl (E := E) (x := x) (v := u) (E.st px (keepI_new nT))).vl (F.st py (keepI_new nT))
    have r := hs hd (x, y) m b (fun m' => forL (zs.drop (i + 1)) m' bd k ∧ i + 1 ≤ zs.length) (by
      have : (fun m' => forL (zs.drop (i + 1)) m' bd k ∧ i + 1 ≤ zs.length) = fun m' => forL (zs.drop (i + 1)) m' bd k := by
        funext m'
        exact propext ⟨fun z => z.1, fun z => ⟨z, hi⟩⟩
      rw [this]
      exact hf) T u w' _ z0
    simpa only [and_assoc] using r
  · subst e
    rw [List.drop_eq_nil_of_le (Nat.le_refl _)] at hf
    exact hd m b hf H' z
theorem c_forZp {xs : List α} {ys : List β} {m0 : M} {bd : α × β → M → (M → Prop) → (M → Prop) → Prop} {k : M → Prop} {g : TG} {tb : TS} (hm : forL (List.zip xs ys) m0 bd k) (up : M → B → List (Option (Option V))) (Pm : M → B → List HA) (b0 : B) (h0 : σ = upds σ (up m0 b0)) (s0 : Sub L (Pm m0 b0 ++ R)) (t : Is (kT E) R v xs) (t2 : Is (kT F) R u ys)
    (hs : (∀ m b, k m → Ent (Pm m b ++ R) (nx (upds σ (up m b)))) → ∀ x m b (nxt : M → Prop), bd x m nxt k → ∀ T u w, Ent (vl F w x.2 :: vl E u x.1 :: tu T [u, w] :: (Pm m b ++ R)) fun H => g (.ref T) (upds σ (up m b)) H fun σ2 H2 => tb ⟨fun σ' H' => ∃ m b, nxt m ∧ σ' = upds σ (up m b) ∧ Holds (Pm m b ++ R) H', rt, nx, fun σ' H' => ∃ m b, nxt m ∧ σ' = upds σ (up m b) ∧ Holds (Pm m b ++ R) H'⟩ σ2 H2)
    (hd : ∀ m b, k m → Ent (Pm m b ++ R) (nx (upds σ (up m b)))) : Ent L fun H => kZipA K (kLoop g tb ⟨nx, rt, bk, ct⟩ σ) [v, u] H := fun H h => by
  have fr : ∀ m b H', Holds (Pm m b ++ R) H' → Holds R H' := fun m b H' z => by
    obtain ⟨S, z⟩ := z
    obtain ⟨S1, S2, _, z2, _⟩ := HL.app.mp z
    exact ⟨S2, z2⟩
  have hR := fr m0 b0 H (s0.to h)
  obtain ⟨a, us, rfl, h1, h2⟩ := t H hR
  obtain ⟨b, ws, rfl, g1, g2⟩ := t2 H hR
  exact ⟨a, b, us, ws, rfl, .inr ⟨h1, g1, forZ_core (walk_zipT xs ys a b) hm up Pm b0 h0 s0 (fun m b' H' z => ⟨t H' (fr m b' H' z), t2 H' (fr m b' H' z)⟩) hs hd h⟩⟩
theorem c_forZl {xs : List α} {ys : List β} {a b : Addr} {R2 : List HA} {m0 : M} {bd : α × β → M → (M → Prop) → (M → Prop) → Prop} {k : M → Prop} {g : TG} {tb : TS} (hm : forL (List.zip xs ys) m0 bd k) (up : M → B → List (Option (Option V))) (Pm : M → B → List HA) (b0 : B) (h0 : σ = upds σ (up m0 b0)) (s0 : Sub L (Pm m0 b0 ++ R)) (t : Take (ls E a xs) R R') (t2 : Take (ls F b ys) R R2)
    (hs : (∀ m b, k m → Ent (Pm m b ++ R) (nx (upds σ (up m b)))) → ∀ x m b (nxt : M → Prop), bd x m nxt k → ∀ T u w, Ent (vl F w x.2 :: vl E u x.1 :: tu T [u, w] :: (Pm m b ++ R)) fun H => g (.ref T) (upds σ (up m b)) H fun σ2 H2 => tb ⟨fun σ' H' => ∃ m b, nxt m ∧ σ' = upds σ (up m b) ∧ Holds (Pm m b ++ R) H', rt, nx, fun σ' H' => ∃ m b, nxt m ∧ σ' = upds σ (up m b) ∧ Holds (Pm m b ++ R) H'⟩ σ2 H2)
    (hd : ∀ m b, k m → Ent (Pm m b ++ R) (nx (upds σ (up m b)))) : Ent L fun H => kZipA K (kLoop g tb ⟨nx, rt, bk, ct⟩ σ) [.ref a, .ref b] H := fun H h => by
  have fr : ∀ m b H', Holds (Pm m b ++ R) H' → Holds R H' := fun m b H' z => by
    obtain ⟨S, z⟩ := z
    obtain ⟨S1, S2, _, z2, _⟩ := HL.app.mp z
    exact ⟨S2, z2⟩
  have hR := fr m0 b0 H (s0.to h)
  obtain ⟨us, h1, h2⟩ := t.ls hR
  obtain ⟨ws, g1, g2⟩ := t2.ls hR
  exact ⟨a, b, us, ws, rfl, .inl ⟨SqL.of h1, SqL.of g1, forZ_core (walk_zipL (E := E) (F := F) xs ys a b) hm up Pm b0 h0 s0 (fun m b' H' z => ⟨t.ls (fr m b' H' z), t2.ls (fr m b' H' z)⟩) hs hd h⟩⟩
end
/-! ## repr of a tuple, or of None -/
section
variable {K : PySem.W.Frag} {α : Type} {L : List HA} {Q : VK} {E : El K α} {v : V}
def rReprO {K : PySem.W.Frag} {α : Type} (C : Ct K α) : List V → Hp → VK → Prop := fun vs H Q => (vs = [.non] ∧ Q (.str "None") H) ∨ rReprC C vs H Q
theorem call_reprO {X : Cx} (C : Ct K α) (hgd : X.A.guards = some []) (hu : X.A.units + 64 < cLine) (hK : X.K = K := by rfl) : CallR X (.builtin "repr") (rReprO C) := by
  intro pins s σ H xs us Q I r h
  rcases h with ⟨rfl, q⟩ | h
  · obtain ⟨u, rfl, rfl⟩ := vals1 r
    exact PySem.P.repr_of_none ⟨.str "None", H, I.tok _, ⟨_, rfl⟩, q⟩
  · exact call_reprC C hgd hu hK pins s σ H xs us Q I r h
theorem c_reprVt {x : List α} {D : PyData} {k : Prop} (hm : grd (Shw D) k) (h : Is (kT E) L v x) (e : (kT E).d x = D) (q : k → Ent L (Q (.str D.shown))) : Ent L fun H => rReprC (ctE (kT E)) [v] H Q := fun H z => by
  subst e
  have p := h H z
  obtain ⟨a, us, rfl, _, _⟩ := id p
  exact ⟨a, x, rfl, p, hm.1, q hm.2 H z⟩
theorem c_reprOt {x : Option (List α)} {D : PyData} {k : Prop} (hm : grd (Shw D) k) (h : Is (kO (kT E)) L v x) (e : (kO (kT E)).d x = D) (q : k → Ent L (Q (.str D.shown))) : Ent L fun H => rReprO (ctE (kT E)) [v] H Q := fun H z => by
  subst e
  have p := h H z
  cases x with
  | none =>
    have p : v = .non := p
    subst p
    exact .inl ⟨rfl, q hm.2 H z⟩
  | some y =>
    have p : (kT E).P H v y := p
    obtain ⟨a, us, rfl, _, _⟩ := id p
    exact .inr ⟨a, y, rfl, p, hm.1, q hm.2 H z⟩
end
theorem c_getOS {K : PySem.W.Frag} {L R : List HA} {φ : Hp → Prop} {v : V} {o : Option Str} {k : Str → Prop} (hm : obg o k) (t : Take (vl (kO (kSt (K := K))) v o) L R) (q : ∀ w, k w → v = .str w → Ent (vl (kSt (K := K)) v w :: L) φ) : Ent L φ := fun H h => by
  obtain ⟨w, rfl, hk⟩ := hm
  have p : (kSt (K := K)).P H v w := t.vl h
  exact q w hk p.1 H (h.vl p)
theorem szd_str {s : Str} {w : Nat} (h : (PyData.showable (.str s) && !PyData.hasDict (.str s) && PyData.leavesShort 13 (.str s) && decide (PyData.weight (.str s) ≤ w) && decide (PyData.depth (.str s) ≤ 0)) = true) : Szd w 0 (.str s) := by
  simp only [Bool.and_eq_true, Bool.not_eq_true', decide_eq_true_eq] at h
  exact ⟨h.1.1.1.1, h.1.1.1.2, h.1.1.2, h.1.2, h.2⟩
end Toy
namespace Toy
open PySem L2 PySem.Spec PyProof.Rows
section
variable {K : PySem.W.Frag} {κ α β M B : Type} {f : κ → L2.Key} {E : El K α} {L R R2 : List HA} {Q : VK} {a : Addr} {ds : List (κ × α)} {kvs : List (L2.Key × V)} {od : Obj} {H : Hp} {nx bk ct : L2.St → Hp → Prop} {rt : VK} {σ : L2.St} {i : Nat}
/-! ## dicts that are gone through stand still -/
def dkl {K : PySem.W.Frag} {κ α : Type} (f : κ → L2.Key) (E : El K α) (a : Addr) (od : Obj) (kvs : List (L2.Key × V)) (d : List (κ × α)) : HA := ⟨fun H S => (H a = some (.frz od (.dK kvs)) ∧ All2 (DkR f E H) kvs d) ∧ ∀ b, S b ↔ b = a, fun {H H' S} ⟨⟨h, x⟩, s⟩ k => ⟨⟨k a _ h (.inl ((s a).mpr rfl)), x.imp fun _ _ z => ⟨z.1, E.st z.2 k.i⟩⟩, s⟩, fun {H S c} ⟨⟨h, x⟩, s⟩ q => by
  rw [(s c).mp q]
  exact ⟨_, h, rfl⟩⟩
theorem Holds.dkl_mk (h : Holds (pt a (.frz od (.dK kvs)) :: R) H) (e : All2 (DkR f E H) kvs ds) : Holds (dkl f E a od kvs ds :: R) H := by
  obtain ⟨S, S1, S2, ⟨h0, _, s⟩, h2⟩ := h
  exact ⟨S, S1, S2, ⟨⟨h0, e⟩, s⟩, h2⟩
theorem Holds.dkl_op (h : Holds (dkl f E a od kvs ds :: R) H) : Holds (pt a (.frz od (.dK kvs)) :: R) H ∧ All2 (DkR f E H) kvs ds := by
  obtain ⟨S, S1, S2, ⟨⟨h1, h2⟩, s⟩, h3⟩ := h
  exact ⟨⟨S, S1, S2, ⟨h1, rfl, s⟩, h3⟩, h2⟩
theorem Holds.dkl_in (h : Holds (pt a (.dK kvs) :: R) H) (e : All2 (DkR f E H) kvs ds) (od : Obj) : Holds (dkl f E a od kvs ds :: R) (L2.upd H a (.frz od (.dK kvs))) := (h.upd rfl).dkl_mk (dkR_upd h rfl e)
theorem Holds.dkl_out (h : Holds (dkl f E a od kvs ds :: R) H) : Holds (dk f E a ds :: R) (L2.upd H a (.dK kvs)) := by
  obtain ⟨h1, h2⟩ := h.dkl_op
  exact (h1.upd rfl).dk_mk (dkR_upd h1 rfl h2)
theorem walk_items (n : Nat) (hn : kvs.length = n) : Walk (Iti a od kvs) n (fun H => H a = some (.frz od (.dK kvs))) (fun i H v H' => ∃ T k u, kvs[i]? = some (k, u) ∧ v = .ref T ∧ H T = none ∧ H' = L2.upd H T (.tup [kV k, u])) :=
  ⟨fun i H hi h => ⟨h, by omega⟩, fun H h => ⟨h, by omega⟩, fun i H x H' hi h y => y⟩
theorem walk_keys (n : Nat) (hn : kvs.length = n) : Walk (Itk a od kvs) n (fun H => H a = some (.frz od (.dK kvs))) (fun i H v H' => H' = H ∧ ∃ k u, kvs[i]? = some (k, u) ∧ v = kV k) :=
  ⟨fun i H hi h => ⟨h, by omega⟩, fun H h => ⟨h, by omega⟩, fun i H x H' hi h y => y⟩
theorem Holds.dkl_get (h : Holds (dkl f E a od kvs ds :: R) H) : H a = some (.frz od (.dK kvs)) := h.dkl_op.1.pt_get
theorem Sub.drop2 {A A2 : HA} : Sub (A :: A2 :: L) (A2 :: L) := Sub.drop Sub.refl
/-- [.. for k, v in d.items() if ..] -/
theorem c_lcIt {bd : κ × α → (Option β → Prop) → Prop} {k : List β → Prop} {g : TG} {tt : TT} {te : TE} {vs : List Nat} (E' : El K β) (hm : grd (ds.length ≤ 100000) (lcL ds [] bd k)) (h0 : σ[i]? = some (some (.ref a))) (t : Take (dk f E a ds) L R)
    (step : ∀ x (nxt : Option β → Prop), bd x nxt → ∀ od kvs T u D ys (r : VK) (s : Hp → Prop), (∀ v' y, nxt (some y) → Ent (vl E' v' y :: ls E' D ys :: dkl f E a od kvs ds :: R) (r v')) → (nxt none → Ent (ls E' D ys :: dkl f E a od kvs ds :: R) s) → Ent (tu T [kV (f x.1), u] :: vl E u x.2 :: ls E' D ys :: dkl f E a od kvs ds :: R) fun H => g (.ref T) (wipe σ vs) H fun σ2 H2 => wipe σ2 vs = wipe σ vs ∧ tt σ2 H2 fun b H3 => if b = true then te σ2 H3 r else s H3)
    (q : ∀ ys, k ys → ∀ D, Ent (ls E' D ys :: dk f E a ds :: R) (Q (.ref D))) : Ent L fun H => tLockE (tLc (iItems (tVar i)) g tt te vs) σ H Q := fun H h => by
  obtain ⟨hz, hm⟩ := hm
  obtain ⟨kvs, h1, h2⟩ := (t.to h).dk_op
  have hl : kvs.length = ds.length := h2.len
  refine ⟨a, .dK kvs, h1.pt_get, trivial, fun od => ⟨.ref a, h0, a, od, kvs, rfl, upd_same, fun D nD => ?_⟩⟩
  have h3 : Holds (dkl f E a od kvs ds :: R) (L2.upd H a (.frz od (.dK kvs))) := h1.dkl_in h2 od
  refine lc_it (walk_items (a := a) (od := od) ds.length hl) (fun i H' => ∃ ys, lcL (ds.drop i) ys bd k ∧ i ≤ ds.length ∧ ys.length ≤ i ∧ Holds (ls E' D ys :: dkl f E a od kvs ds :: R) H') ⟨[], hm, Nat.zero_le _, Nat.le_refl _, h3.ls_new nD .nil⟩ (fun i H' _ ⟨ys, _, _, _, p⟩ => (Sub.to Sub.drop2 p).dkl_get) (fun i v H' H'' hi ⟨ys, hf, _, hy, p⟩ ⟨T, k1, u, hx, e, nT, eH⟩ => ?_) (fun H' ⟨ys, hf, _, _, p⟩ => ?_)
  · subst e eH
    have p2 := Sub.to Sub.drop2 p
    obtain ⟨x, hx2, hp⟩ := p2.dkl_op.2.get hx
    obtain ⟨e1, hp⟩ := hp
    simp only at e1 hp
    have ed : ds.drop i = x :: ds.drop (i + 1) := by
      rw [List.drop_eq_getElem_cons hi]
      congr 1
      exact Option.some.inj ((List.getElem?_eq_getElem hi).symm.trans hx2)
    rw [ed, lcL] at hf
    have z0 : Holds (tu T [kV k1, u] :: vl E u x.2 :: ls E' D ys :: dkl f E a od kvs ds :: R) (L2.upd H' T (.tup [kV k1, u])) := Sub.to Sub.swap (by
      have z := (p.newI (o := .tup [kV k1, u]) nT rfl).vl (E := E) (x := x.2) (v := u) (E.st hp (keepI_new nT))
      exact z)
    rw [e1] at z0 ⊢
    refine step x _ hf od kvs T u D ys _ _ (fun v' y hy' H4 z => ?_) (fun hn H3 z => ?_) _ z0
    · obtain ⟨ac, z1, z2⟩ := Holds.ls_op (Sub.to (Sub.drop Sub.refl) z)
      have z3 : E'.P H4 v' y := Take.vl take_here z
      refine ⟨ac, z1.pt_get, ?_, ys ++ [y], hy', hi, by simp; omega, Holds.ls_upd (Sub.to (Sub.drop Sub.refl) z) (z2.app (.one z3))⟩
      rw [z2.len]
      exact Nat.lt_of_le_of_lt (by omega : ys.length ≤ 100000) (by decide : 100000 < sizeLine)
    · exact ⟨ys, by simpa using hn, hi, by omega, z⟩
  · rw [List.drop_length] at hf
    have p2 := Sub.to Sub.swap p
    exact ⟨p2.dkl_get, q ys hf D _ (Sub.to Sub.swap p2.dkl_out)⟩
theorem e_lcIt0 {g : TG} {tt : TT} {te : TE} {vs : List Nat} (q : Ent L fun H => tLockE (tLc (iItems (tVar i)) g tt te vs) σ H Q) : Ent L fun H => tLockE (tLc (iItems (tVar i)) g tt te vs) σ H Q := q
/-- for k in d -/
theorem c_forKy {m0 : M} {bd : κ → M → (M → Prop) → (M → Prop) → Prop} {k : M → Prop} {g : TG} {tb : TS} (hm : forL (ds.map (·.1)) m0 bd k) (up : M → B → List (Option (Option V))) (Pm : M → B → List HA) (b0 : B) (h0 : σ = upds σ (up m0 b0)) (hi : σ[i]? = some (some (.ref a))) (t : Take (dk f E a ds) L R) (s0 : Sub R (Pm m0 b0 ++ R2))
    (hs : (∀ m b, k m → Ent (dk f E a ds :: (Pm m b ++ R2)) (nx (upds σ (up m b)))) → ∀ od kvs x m b (nxt : M → Prop), bd x m nxt k → Ent (dkl f E a od kvs ds :: (Pm m b ++ R2)) fun H => g (kV (f x)) (upds σ (up m b)) H fun σ2 H2 => tb ⟨fun σ' H' => ∃ m b, nxt m ∧ σ' = upds σ (up m b) ∧ Holds (dkl f E a od kvs ds :: (Pm m b ++ R2)) H', fun v H' => H' a = some (.frz od (.dK kvs)) ∧ rt v (L2.upd H' a (.dK kvs)), fun σ' H' => H' a = some (.frz od (.dK kvs)) ∧ nx σ' (L2.upd H' a (.dK kvs)), fun σ' H' => ∃ m b, nxt m ∧ σ' = upds σ (up m b) ∧ Holds (dkl f E a od kvs ds :: (Pm m b ++ R2)) H'⟩ σ2 H2)
    (hd : ∀ m b, k m → Ent (dk f E a ds :: (Pm m b ++ R2)) (nx (upds σ (up m b)))) : Ent L fun H => tLock (tFor (iKeys (tVar i)) g tb) ⟨nx, rt, bk, ct⟩ σ H := fun H h => by
  obtain ⟨kvs, h1, h2⟩ := (t.to h).dk_op
  have hl : kvs.length = ds.length := h2.len
  have hlm : (ds.map (·.1)).length = ds.length := List.length_map ..
  refine ⟨a, .dK kvs, h1.pt_get, trivial, fun od => ⟨.ref a, hi, a, od, rfl, .inl ⟨kvs, upd_same, ?_⟩⟩⟩
  have h3 : Holds (dkl f E a od kvs ds :: (Pm m0 b0 ++ R2)) (L2.upd H a (.frz od (.dK kvs))) := Sub.to (Sub.cons s0) (h1.dkl_in h2 od)
  refine w_loop (walk_keys (a := a) (od := od) ds.length hl) (fun i σ' H' => ∃ m b, forL ((ds.map (·.1)).drop i) m bd k ∧ i ≤ ds.length ∧ σ' = upds σ (up m b) ∧ Holds (dkl f E a od kvs ds :: (Pm m b ++ R2)) H') ⟨m0, b0, hm, Nat.zero_le _, h0, h3⟩ (fun i σ' H' _ ⟨m, b, _, _, _, z⟩ => z.dkl_get) (fun i v σ' H' H'' hi ⟨m, b, hf, _, e, z⟩ ⟨e2, k1, u, hx, e3⟩ => ?_) (fun σ' H' ⟨m, b, hf, _, e, z⟩ => ?_)
  · subst e e2 e3
    obtain ⟨x, hx2, e1, hp⟩ := z.dkl_op.2.get hx
    simp only at e1
    have hx3 : (ds.map (·.1))[i]? = some x.1 := by rw [List.getElem?_map, hx2]; rfl
    have ed : (ds.map (·.1)).drop i = x.1 :: (ds.map (·.1)).drop (i + 1) := by
      rw [List.drop_eq_getElem_cons (by omega)]
      congr 1
      exact Option.some.inj ((List.getElem?_eq_getElem (by omega)).symm.trans hx3)
    rw [ed, forL_cons] at hf
    rw [e1]
    have r := hs hd od kvs x.1 m b (fun m' => forL ((ds.map (·.1)).drop (i + 1)) m' bd k ∧ i + 1 ≤ ds.length) (by
      have : (fun m' => forL ((ds.map (·.1)).drop (i + 1)) m' bd k ∧ i + 1 ≤ ds.length) = fun m' => forL ((ds.map (·.1)).drop (i + 1)) m' bd k := by
        funext m'
        exact propext ⟨fun z => z.1, fun z => ⟨z, hi⟩⟩
      rw [this]
      exact hf) _ z
    simpa only [and_assoc] using r
  · subst e
    rw [List.drop_eq_nil_of_le (by omega)] at hf
    exact ⟨z.dkl_get, hd m b hf _ z.dkl_out⟩
theorem c_lcItI {ds : List (Int × α)} {bd : Int × α → (Option β → Prop) → Prop} {k : List β → Prop} {g : TG} {tt : TT} {te : TE} {vs : List Nat} (E' : El K β) (hm : grd (ds.length ≤ 100000) (lcL ds [] bd k)) (h0 : σ[i]? = some (some (.ref a))) (t : Take (dk fI E a ds) L R)
    (step : ∀ x (nxt : Option β → Prop), bd x nxt → ∀ od kvs T u D ys (r : VK) (s : Hp → Prop), (∀ v' y, nxt (some y) → Ent (vl E' v' y :: ls E' D ys :: dkl fI E a od kvs ds :: R) (r v')) → (nxt none → Ent (ls E' D ys :: dkl fI E a od kvs ds :: R) s) → Ent (tu T [.int x.1, u] :: vl E u x.2 :: ls E' D ys :: dkl fI E a od kvs ds :: R) fun H => g (.ref T) (wipe σ vs) H fun σ2 H2 => wipe σ2 vs = wipe σ vs ∧ tt σ2 H2 fun b H3 => if b = true then te σ2 H3 r else s H3)
    (q : ∀ ys, k ys → ∀ D, Ent (ls E' D ys :: dk fI E a ds :: R) (Q (.ref D))) : Ent L fun H => tLockE (tLc (iItems (tVar i)) g tt te vs) σ H Q := c_lcIt E' hm h0 t step q
theorem c_forKyI {ds : List (Int × α)} {m0 : M} {bd : Int → M → (M → Prop) → (M → Prop) → Prop} {k : M → Prop} {g : TG} {tb : TS} (hm : forL (ds.map (·.1)) m0 bd k) (up : M → B → List (Option (Option V))) (Pm : M → B → List HA) (b0 : B) (h0 : σ = upds σ (up m0 b0)) (hi : σ[i]? = some (some (.ref a))) (t : Take (dk fI E a ds) L R) (s0 : Sub R (Pm m0 b0 ++ R2))
    (hs : (∀ m b, k m → Ent (dk fI E a ds :: (Pm m b ++ R2)) (nx (upds σ (up m b)))) → ∀ od kvs x m b (nxt : M → Prop), bd x m nxt k → Ent (dkl fI E a od kvs ds :: (Pm m b ++ R2)) fun H => g (.int x) (upds σ (up m b)) H fun σ2 H2 => tb ⟨fun σ' H' => ∃ m b, nxt m ∧ σ' = upds σ (up m b) ∧ Holds (dkl fI E a od kvs ds :: (Pm m b ++ R2)) H', fun v H' => H' a = some (.frz od (.dK kvs)) ∧ rt v (L2.upd H' a (.dK kvs)), fun σ' H' => H' a = some (.frz od (.dK kvs)) ∧ nx σ' (L2.upd H' a (.dK kvs)), fun σ' H' => ∃ m b, nxt m ∧ σ' = upds σ (up m b) ∧ Holds (dkl fI E a od kvs ds :: (Pm m b ++ R2)) H'⟩ σ2 H2)
    (hd : ∀ m b, k m → Ent (dk fI E a ds :: (Pm m b ++ R2)) (nx (upds σ (up m b)))) : Ent L fun H => tLock (tFor (iKeys (tVar i)) g tb) ⟨nx, rt, bk, ct⟩ σ H := c_forKy hm up Pm b0 h0 hi t s0 hs hd
/-- d[k] of a dict that is gone through -/
theorem Take.dkl (t : Take (dkl f E a od kvs ds) L R) (h : Holds L H) : H a = some (.frz od (.dK kvs)) ∧ All2 (DkR f E H) kvs ds := by
  obtain ⟨S, S1, S2, h1, _⟩ := t.to h
  exact h1.1
theorem c_dgetIL {ds : List (Int × α)} {j : Int} {k : α → Prop} (hm : obx (dg ds j) k) (t : Take (dkl fI E a od kvs ds) L R) (q : ∀ w, k w → ∀ v, Ent (vl E v w :: L) (Q v)) : Ent L fun H => kDGet Q (.ref a) (.int j) H := fun H h => by
  obtain ⟨w, e, hk⟩ := hm
  obtain ⟨h1, h2⟩ := t.dkl h
  obtain ⟨v, e2, hp⟩ := (dkR_val fI_inj h2 j).1 w e
  refine ⟨a, v, rfl, .inl ⟨kvs, fI j, .inr ⟨od, h1⟩, rfl, e2.symm⟩, q w hk v H (h.vl hp)⟩
end
/-! ## sorted of pairs of numbers -/
def leP (x y : Int × Int) : Bool := decide (x.1 < y.1 ∨ x.1 = y.1 ∧ x.2 ≤ y.2)
def srtP (xs : List (Int × Int)) : List (Int × Int) := xs.mergeSort leP
theorem leP_trans : ∀ a b c : Int × Int, leP a b = true → leP b c = true → leP a c = true := fun a b c h1 h2 => by
  simp only [leP, decide_eq_true_eq] at *
  omega
theorem leP_total : ∀ a b : Int × Int, (leP a b || leP b a) = true := fun a b => by
  simp only [leP, Bool.or_eq_true, decide_eq_true_eq]
  omega
theorem leP_anti {a b : Int × Int} (h1 : leP a b = true) (h2 : leP b a = true) : a = b := by
  simp only [leP, decide_eq_true_eq] at *
  exact Prod.ext (by omega) (by omega)
theorem srtP_perm (xs : List (Int × Int)) : (srtP xs).Perm xs := List.mergeSort_perm ..
theorem srtP_le (xs : List (Int × Int)) : (srtP xs).Pairwise fun a b => leP a b = true := List.pairwise_mergeSort leP_trans leP_total xs
theorem srtP_eq {xs ys : List (Int × Int)} (h : ys.Perm xs) (s : ys.Pairwise fun a b => leP a b = true) : srtP xs = ys := by
  have p := (srtP_perm xs).trans h.symm
  exact List.Perm.eq_of_pairwise (fun a b _ _ => leP_anti) (srtP_le xs) s p
section
variable {K : PySem.W.Frag} {L R : List HA} {Q : VK} {a : Addr}
abbrev kPI {K : PySem.W.Frag} : El K (Int × Int) := kTup (kC kI (kC1 kI))
noncomputable def rdP (H : Hp) (v : V) : Int × Int := match v with | .ref t => (match H t with | some (.tup [.int i, .int j]) => (i, j) | _ => (0, 0)) | _ => (0, 0)
theorem rdP_of {H : Hp} {v : V} {x : Int × Int} (h : (kPI (K := K)).P H v x) : ∃ t, v = .ref t ∧ H t = some (.tup [.int x.1, .int x.2]) ∧ rdP H v = x := by
  obtain ⟨t, us, rfl, ht, h2⟩ := h
  obtain ⟨u1, us1, e1, p1, h3⟩ := h2
  obtain ⟨u2, e2, p2⟩ := h3
  subst e1 e2
  cases p1
  cases p2
  refine ⟨t, rfl, ht, ?_⟩
  unfold rdP
  simp only [ht]
theorem cr_srtP {X : Cx} (h : X.K = K := by rfl) : CallR X (.builtin "sorted") (rSortedPO K) := h ▸ cr_sortedPO
theorem c_sortedP {xs : List (Int × Int)} (t : Take (ls (kPI (K := K)) a xs) L R) (q : ∀ p, Ent (ls (kPI (K := K)) p (srtP xs) :: L) (Q (.ref p))) : Ent L fun H => rSortedPO K [.ref a] H Q := fun H h => by
  obtain ⟨vs, h1, h2⟩ := t.ls h
  refine ⟨a, vs, rdP H, rfl, SqL.of h1, fun x hx => ?_, fun ys p hs hb np => ?_⟩
  · obtain ⟨i, hi⟩ := List.mem_iff_getElem?.mp hx
    obtain ⟨z, _, hp⟩ := h2.get hi
    obtain ⟨t, e, ht, er⟩ := rdP_of hp
    exact ⟨t, e, by rw [er]; exact ht⟩
  · have hperm : ys.Perm vs := hb.perm
    have em : xs = vs.map (rdP H) := by
      clear hb hs hperm h1 h t q
      induction h2 with
      | nil => rfl
      | cons hp _ ih =>
        obtain ⟨_, _, _, er⟩ := rdP_of hp
        rw [List.map_cons, er, ← ih]
    have e2 : srtP xs = ys.map (rdP H) := by
      refine srtP_eq (by rw [em]; exact hperm.map _) ?_
      rw [List.pairwise_map]
      refine List.Pairwise.imp (fun {x y} hxy => ?_) (show ys.Pairwise fun x y => ltP (rdP H) y x = false from hs)
      have := SrtO.lexB_no.mp hxy
      simp only [leP, decide_eq_true_eq]
      omega
    refine q p _ (h.ls_new np ?_)
    rw [e2]
    have all : ∀ y ∈ ys, (kPI (K := K)).P H y (rdP H y) := fun y hy => by
      obtain ⟨i, hi⟩ := List.mem_iff_getElem?.mp (hperm.mem_iff.mp hy)
      obtain ⟨z, _, hp⟩ := h2.get hi
      obtain ⟨_, _, _, er⟩ := rdP_of hp
      rw [er]
      exact hp
    clear e2 hb hs hperm
    induction ys with
    | nil => exact .nil
    | cons y ys ih => exact .cons (all y (by simp)) (ih fun z hz => all z (by simp [hz]))
end
end Toy
namespace Toy
open PySem PySem.Spec PyProof.Rows L2 RZ
/-! ## enumerate of a tuple -/
theorem meets_enumT_new (l : Addr) (items : Array Value) :
    Meets (Builtin.«enumerate.__new__» ⟨[.type "enumerate", .ref l], []⟩) (fun _ R s => s.heap.IsTuple l items ∧
      R (.ok (.ret (.ref (s.heap.push { cls := .type "tuple_iterator", data := .fields #[.ref l, .int 0 0] }).objs.size)))
        { s with heap := (s.heap.push { cls := .type "tuple_iterator", data := .fields #[.ref l, .int 0 0] }).push { cls := .type "enumerate", data := .fields #[.none, .bool false, .ref s.heap.objs.size, rawInt 0, .none, .none] } }) :=
  .of_wp fun prog w A R s h => by
    obtain ⟨hp, g, d, tk, os⟩ := s; obtain ⟨hl, h⟩ := h
    have hsub := sub_enumerate
    have hL : Heap.IsTuple (Shared.heap ⟨hp, g, d, tk, os⟩) l items := hl
    wp_walk using wpAny_pyIter_tuple hL
    refine wpAny_stack_any fun st => wpAny_pure ?_
    split
    · rename_i c _ _ _ _ _
      cases (c == Value.type "enumerate")
      · wp_walk using wpAny_pyIter_tuple hL
        exact ⟨_, rfl, h⟩
      · wp_walk using wpAny_pyIter_tuple hL
        exact ⟨_, rfl, h⟩
    · wp_walk using wpAny_pyIter_tuple hL
      exact ⟨_, rfl, h⟩
theorem call_enumT {prog : Program} {w : World} {A : Around} {E : Value → Shared → Prop} {s : Shared} {l : Addr} {items : Array Value} {Q : Value → Shared → Prop} (hL : s.heap.IsTuple l items)
    (h : ∀ h', IsEnum h' (s.heap.objs.size + 1) s.heap.objs.size 0 .none → h'.IsTupleIter s.heap.objs.size l 0 → h'.objs.size = s.heap.objs.size + 2 →
      (∀ b o, s.heap.get? b = some o → h'.get? b = some o) → Q (.ref (s.heap.objs.size + 1)) { s with heap := h' }) :
    wpAny (model prog w) A (call (.type "enumerate") [.ref l]) Q E s := by
  refine callType_new F.called_enumerate (by decide) (F.typeCall_enumerate_1 _) (F.newCall_enumerate_1 _) (fun obj => F.args_object_init_2 obj _) F.entry_enumerate_new
    (meets_enumT_new l items) ⟨hL, ?_⟩
  have hz : (s.heap.push { cls := .type "tuple_iterator", data := .fields #[.ref l, .int 0 0] }).objs.size = s.heap.objs.size + 1 := Heap.size_push ..
  show _ ∧ _
  rw [hz]
  have he : IsEnum ((s.heap.push { cls := .type "tuple_iterator", data := .fields #[.ref l, .int 0 0] }).push
      { cls := .type "enumerate", data := .fields #[.none, .bool false, .ref s.heap.objs.size, rawInt 0, .none, .none] }) (s.heap.objs.size + 1) s.heap.objs.size 0 .none := by
    have := Heap.get?_push_size (s.heap.push { cls := .type "tuple_iterator", data := .fields #[.ref l, .int 0 0] })
      (o := { cls := .type "enumerate", data := .fields #[.none, .bool false, .ref s.heap.objs.size, rawInt 0, .none, .none] }) rfl
    rw [hz] at this; exact this
  refine ⟨⟨_, he, rfl⟩, h _ he ⟨_, Heap.get?_push_of_some _ (Heap.get?_push_size _ rfl), rfl, rfl⟩ (by rw [Heap.size_push, hz]) fun b o x => Heap.get?_push_of_some _ (Heap.get?_push_of_some _ x)⟩
def IteT (K : PySem.W.Frag) (a : Addr) : It :=
  ⟨fun i H => ∃ (xs : List V) (x : V), SqT K H a xs ∧ xs[i]? = some x, fun i H v H' => ∃ T x, v = .ref T ∧ H T = none ∧ H' = upd H T (.tup [.int (i : Nat), x]) ∧ ∀ xs, SqT K H a xs → xs[i]? = some x, fun i H => ∃ xs : List V, SqT K H a xs ∧ xs.length ≤ i⟩
theorem turn_enumT {P : Program} {w : World} {K : PySem.W.Frag} {elts : List Expr} {kk : Nat} {tpos : Pos} (a e it : Addr) :
    Turn P w K (.Tuple elts kk tpos) (IteT K a) [e, it] e (fun i h => (∃ old, IsEnum h e it ((i : Nat) : Int) old) ∧ h.IsTupleIter it a i ∧ e ≠ it ∧ e ≠ a ∧ a ≠ it) where
  mem := by simp
  obj := fun i h st b hb => by
    obtain ⟨⟨old, he⟩, ⟨o, ho, hc, hd⟩, _⟩ := st
    have e' : b = e ∨ b = it := by simpa using hb
    rcases e' with z | z
    · rw [z]; exact ⟨_, he, fun v q => nomatch q⟩
    · rw [z]; exact ⟨o, ho, fun v q => by rw [hd] at q; cases q⟩
  keep := fun i h h' st k => let ⟨⟨old, he⟩, hi, hne⟩ := st; ⟨⟨old, k e (by simp) _ he⟩, hi.at fun o q => k it (by simp) o q, hne⟩
  item := by
    intro X hP hw hK hc i pins s σ H E I hf st hg
    subst hP hw hK
    obtain ⟨⟨old, he⟩, hit, hne, hea, hai⟩ := st
    obtain ⟨xs, x, hq, hx⟩ := hg
    obtain ⟨its, rv, p, hz⟩ := I.tuple hq
    obtain ⟨u, hu, ru⟩ := rv.get hx
    have hel : e < s.heap.objs.size := Heap.lt_size he
    have hil : it < s.heap.objs.size := by obtain ⟨_, q, _⟩ := hit; exact Heap.lt_size q
    have hi : i < its.toArray.size := by
      have := (List.getElem?_eq_some_iff.mp hu).1
      simpa using this
    refine wpAny_pyNext_enum_itemD (fp := [it, a]) (Draws.tuple (A := X.A.in1) (show X.A.in1.handled = none from I.ok.hd hc) it a hai its.toArray) he ⟨hit, p⟩ hi hne (by simp [hne, hea]) fun u' h' tk hP' ho st' hT hsz hk => ?_
    obtain ⟨hit', _⟩ := st'
    obtain rfl : u' = u := by
      have hP'' : its.toArray[i]? = some u' := hP'
      rw [List.getElem?_toArray] at hP''
      rw [hu] at hP''
      exact (Option.some.inj hP'').symm
    refine ⟨_, rfl, wpAny_letOwnedTupleGo_enum (s := { s with heap := h', toks := tk + 1 }) ho fun h'' he' sb => ?_⟩
    have hT2 : h''.get? s.heap.objs.size = some { cls := .type "tuple", data := .seq #[.int i tk, u'] } := (sb.2 _ (Nat.ne_of_gt hel)).trans hT
    have new : ObjOk X.prog X.w (upd H s.heap.objs.size (.tup [.int (i : Nat), x])) h'' s.heap.objs.size (.tup [.int (i : Nat), x]) :=
      ⟨by show 2 ≤ sizeLine; decide, [.int i tk, u'], .cons ⟨_, rfl⟩ (.cons ru .nil), ⟨_, hT2, rfl, _, rfl⟩⟩
    have I1 : Inv X pins σ (upd H s.heap.objs.size (.tup [.int (i : Nat), x])) { s with heap := h'', toks := tk + 1 } :=
      I.turnedNew (ch := [e, it]) (fun b ob hb q => (sb.2 b (fun z => hb (by simp [z]))).trans (hk b ob (fun z => hb (by simp [z])) (fun z => hb (by simp [z])) q)) hf (Nat.le_refl _) new
    refine ⟨.ref s.heap.objs.size, _, I1, rfl, ⟨_, x, rfl, I.hok.fresh (Nat.le_refl _), rfl, fun ys hy => by rw [I.tuple_inj hy hq]; exact hx⟩, ⟨⟨u', ?_⟩, hit'.at fun o q => (sb.2 it (Ne.symm hne)).trans q, hne, hea, hai⟩, fun b hb => ?_⟩
    · have e1 : ((i + 1 : Nat) : Int) = (i : Int) + 1 := by omega
      rw [e1]; exact he'
    · have hb' : b < s.heap.objs.size := by
        have e' : b = e ∨ b = it := by simpa using hb
        rcases e' with z | z
        · rw [z]; exact hel
        · rw [z]; exact hil
      rw [upd_ne (Nat.ne_of_lt hb')]
      exact (hf b hb).1
  done := by
    intro X hP hw hK hc i pins s σ H E I hf st hg
    subst hP hw hK
    obtain ⟨⟨old, he⟩, hit, hne, hea, hai⟩ := st
    obtain ⟨xs, hq, hx⟩ := hg
    obtain ⟨its, rv, p, hz⟩ := I.tuple hq
    obtain ⟨f0, f1, f2, f3, f4, f5⟩ := hf it (by simp)
    have hl := rv.length
    have hT : s.TypeIs (.ref e) "enumerate" := ⟨_, he, rfl⟩
    unfold pyNext
    refine wpAny_bind (wpAny_attempt (wpAny_callSpecial?_slot (name := Str.ofString "__next__") hT F.slot_enumerate_next
      (wpAny_call_entry F.slot_enumerate_next hT F.entry_enumerate_next ?_ (F.args_enumerate_next_1 _))))
    show wpAny _ _ (field (.ref e) 2 >>= _) _ _ _
    refine wpAny_bind (wpAny_field he rfl (x := .ref it) rfl ?_)
    refine wpAny_bind (nextOf_tuple_end (I.ok.hd hc) hit p (by simp; omega) fun h' x he' hx' => ?_)
    obtain ⟨o, ho, hc'⟩ := hx'
    refine wpAny_bind (wpAny_isInstance (T := "StopIteration") (b := true) ⟨o, ho, hc'⟩ isSubtype_stop ?_)
    exact wpAny_pure ⟨rfl, I.turned (t' := s.toks) (fun b o hb q => he' b o hb q) f0 f1 f3 f4 f5⟩
  self := fun A i s Q E st h => let ⟨⟨_, he⟩, _⟩ := st; wpAny_pyIter_enum he h
def iEnumT (K : PySem.W.Frag) (ta : TA) : TI := fun σ H R => ta σ H fun vs H1 => ∃ a xs, vs = [.ref a] ∧ SqT K H1 a xs ∧ R (IteT K a) H1
theorem pi_enumT {X : Cx} {e : Expr} {ta : TA} {p pos tpos : Pos} {elts : List Expr} {kk : Nat} (hg : Gl X "enumerate") (hm : X.mg "enumerate" = none) (ha : PA X [e] ta) (hs : starEach [e] X.env = [(false, eval e X.env)] := by rfl) :
    PI X (.Tuple elts kk tpos) (.Call (.Name "enumerate" p) [e] [] pos) (iEnumT X.K ta) := by
  refine ⟨fun pins s σ H R I h => ?_⟩
  refine Call_ (ld_blt I hg hm boot_enumerate (PyProof.Rows.callWith_type1 (thn (ha.run pos pins s σ H _ I h) fun us s1 ⟨vs, H1, I1, r1, q1⟩ => ?_) hs rfl))
  obtain ⟨a, xs, ex, hq, q⟩ := q1
  subst ex
  cases r1 with
  | cons r rr =>
    cases rr
    cases r
    obtain ⟨its, rv, p', hz⟩ := I1.tuple hq
    have hlt : a < s1.heap.objs.size := by obtain ⟨_, q, _⟩ := id p'; exact Heap.lt_size q
    refine call_enumT p' fun h' he hit hsz hk => wpAny_pyIter_enum he ?_
    have I2 : Inv X pins σ H1 { s1 with heap := h' } := I1.kept (t' := s1.toks) hk
    refine ⟨s1.heap.objs.size + 1, [s1.heap.objs.size + 1, s1.heap.objs.size], _, _, H1, rfl, I2, turn_enumT a (s1.heap.objs.size + 1) s1.heap.objs.size, ⟨⟨.none, he⟩, hit, Nat.succ_ne_self _, Nat.ne_of_gt (Nat.lt_succ_of_lt hlt), Nat.ne_of_lt hlt⟩, fun b hb => ?_, q⟩
    have e' : b = s1.heap.objs.size + 1 ∨ b = s1.heap.objs.size := by simpa using hb
    have hle : s1.heap.objs.size ≤ b := by
      rcases e' with z | z
      · rw [z]; exact Nat.le_add_right _ _
      · rw [z]; exact Nat.le_refl _
    exact I1.fpOk hle (I1.hok.fresh hle)
end Toy

namespace Toy
open PySem L2 PySem.Spec PyProof.Rows RZ
section
variable {K : PySem.W.Frag} {α β M B : Type} {L R R' : List HA} {Q : VK} {E : El K α} {v : V} {nx bk ct : L2.St → Hp → Prop} {rt : VK} {σ : L2.St} {tas : TA} {l : Addr} {xs : List α}
def kEnumT (K : PySem.W.Frag) (R : It → Hp → Prop) (us : List V) (H : Hp) : Prop := ∃ a xs, us = [.ref a] ∧ SqT K H a xs ∧ R (IteT K a) H
theorem e_forET {g : TG} {tb : TS} (q : Ent L fun H => tas σ H fun us H1 => kEnumT K (kLoop g tb ⟨nx, rt, bk, ct⟩ σ) us H1) : Ent L fun H => tFor (iEnumT K tas) g tb ⟨nx, rt, bk, ct⟩ σ H := q
theorem walk_enT (E : El K α) (l : Addr) (xs : List α) : Walk (IteT K l) xs.length (fun H => (kT E).P H (.ref l) xs) (fun i H v H' => ∃ T x u, v = .ref T ∧ H T = none ∧ H' = L2.upd H T (.tup [.int i, u]) ∧ xs[i]? = some x ∧ E.P H u x) :=
  ⟨fun i H hi ⟨a', us, e, h1, h2⟩ => by
    cases e
    obtain ⟨u, hu, _⟩ := h2.getR (List.getElem?_eq_getElem hi)
    exact ⟨us, u, h1, hu⟩, fun H ⟨a', us, e, h1, h2⟩ => by
    cases e
    exact ⟨us, h1, by rw [h2.len]; exact Nat.le_refl _⟩, fun i H x H' hi ⟨a', us, e, h1, h2⟩ ⟨T, u, e1, e2, e3, e4⟩ => by
    cases e
    obtain ⟨y, hy, py⟩ := h2.get (e4 us h1)
    exact ⟨T, y, u, e1, e2, e3, hy, py⟩⟩
theorem walk_enF (E : El K α) (l : Addr) (xs : List α) : Walk (Ite K l) xs.length (fun H => (kFz E).P H (.ref l) xs) (fun i H v H' => ∃ T x u, v = .ref T ∧ H T = none ∧ H' = L2.upd H T (.tup [.int i, u]) ∧ xs[i]? = some x ∧ E.P H u x) :=
  ⟨fun i H hi ⟨a', o, vs, e, z1, z2⟩ => by
    cases e
    exact (walk_enum (K := K) (a := l) (xs := vs)).goes i H (by rw [z2.len]; exact hi) (.inl (.inr ⟨o, z1⟩)), fun H ⟨a', o, vs, e, z1, z2⟩ => by
    cases e
    have := (walk_enum (K := K) (a := l) (xs := vs)).stops H (.inl (.inr ⟨o, z1⟩))
    rw [z2.len] at this
    exact this, fun i H x H' hi ⟨a', o, vs, e, z1, z2⟩ y => by
    cases e
    obtain ⟨T, a, b, e1, e2, e3, e4, e5⟩ := (walk_enum (K := K) (a := l) (xs := vs)).yields i H x H' (by rw [z2.len]; exact hi) (.inl (.inr ⟨o, z1⟩)) y
    obtain rfl : V.int (i : Nat) = a := Option.some.inj e4
    obtain ⟨x', hx, hp⟩ := z2.get e5
    exact ⟨T, x', b, e1, e2, e3, hx, hp⟩⟩
theorem forEn_core {J : It} {G : Hp → Prop} {m0 : M} {bd : Int × α → M → (M → Prop) → (M → Prop) → Prop} {k : M → Prop} {g : TG} {tb : TS} {H : Hp} (w : Walk J xs.length G (fun i H v H' => ∃ T x u, v = .ref T ∧ H T = none ∧ H' = L2.upd H T (.tup [.int i, u]) ∧ xs[i]? = some x ∧ E.P H u x))
    (hm : forL (enI xs) m0 bd k) (up : M → B → List (Option (Option V))) (Pm : M → B → List HA) (b0 : B) (h0 : σ = upds σ (up m0 b0)) (s0 : Sub L (Pm m0 b0 ++ R)) (hG : ∀ m b H', Holds (Pm m b ++ R) H' → G H')
    (hs : (∀ m b, k m → Ent (Pm m b ++ R) (nx (upds σ (up m b)))) → ∀ x m b (nxt : M → Prop), bd x m nxt k → ∀ T v, Ent (tu T [.int x.1, v] :: vl E v x.2 :: (Pm m b ++ R)) fun H => g (.ref T) (upds σ (up m b)) H fun σ2 H2 => tb ⟨fun σ' H' => ∃ m b, nxt m ∧ σ' = upds σ (up m b) ∧ Holds (Pm m b ++ R) H', rt, nx, fun σ' H' => ∃ m b, nxt m ∧ σ' = upds σ (up m b) ∧ Holds (Pm m b ++ R) H'⟩ σ2 H2)
    (hd : ∀ m b, k m → Ent (Pm m b ++ R) (nx (upds σ (up m b)))) (h : Holds L H) : kLoop g tb ⟨nx, rt, bk, ct⟩ σ J H := by
  refine w_loop w (fun i σ' H' => ∃ m b, forL ((enI xs).drop i) m bd k ∧ i ≤ xs.length ∧ σ' = upds σ (up m b) ∧ Holds (Pm m b ++ R) H') ⟨m0, b0, hm, Nat.zero_le _, h0, s0.to h⟩ (fun i σ' H' _ ⟨m, b, _, _, _, z⟩ => hG m b H' z) (fun i v σ' H' H'' hi ⟨m, b, hf, _, e, z⟩ ⟨T, x, u, e2, nT, eH, hx, hp⟩ => ?_) fun σ' H' ⟨m, b, hf, _, e, z⟩ => ?_
  · subst e e2 eH
    have ed : (enI xs).drop i = ((i : Int), x) :: (enI xs).drop (i + 1) := by
      rw [List.drop_eq_getElem_cons (by rw [enI_len]; exact hi)]
      congr 1
      exact Option.some.inj ((List.getElem?_eq_getElem (by rw [enI_len]; exact hi)).symm.trans (enI_get hx))
    rw [ed, forL_cons] at hf
    have z0 : Holds (tu T [.int i, u] :: vl E u x :: (Pm m b ++ R)) (L2.upd H' T (.tup [.int i, u])) := Sub.to Sub.swap ((z.newI (o := .tup [.int i, u]) nT rfl).vl (E := E) (x := x) (v := u) (E.st hp (keepI_new nT)))
    have r := hs hd ((i : Int), x) m b (fun m' => forL ((enI xs).drop (i + 1)) m' bd k ∧ i + 1 ≤ xs.length) (by
      have : (fun m' => forL ((enI xs).drop (i + 1)) m' bd k ∧ i + 1 ≤ xs.length) = fun m' => forL ((enI xs).drop (i + 1)) m' bd k := by
        funext m'
        exact propext ⟨fun z => z.1, fun z => ⟨z, hi⟩⟩
      rw [this]
      exact hf) T u _ z0
    simpa only [and_assoc] using r
  · subst e
    rw [List.drop_eq_nil_of_le (by rw [enI_len]; exact Nat.le_refl _)] at hf
    exact hd m b hf H' z
theorem c_forEnF {m0 : M} {bd : Int × α → M → (M → Prop) → (M → Prop) → Prop} {k : M → Prop} {g : TG} {tb : TS} (hm : forL (enI xs) m0 bd k) (up : M → B → List (Option (Option V))) (Pm : M → B → List HA) (b0 : B) (h0 : σ = upds σ (up m0 b0)) (s0 : Sub L (Pm m0 b0 ++ R)) (t : Take (vl (kFz E) v xs) R R')
    (hs : (∀ m b, k m → Ent (Pm m b ++ R) (nx (upds σ (up m b)))) → ∀ x m b (nxt : M → Prop), bd x m nxt k → ∀ T v, Ent (tu T [.int x.1, v] :: vl E v x.2 :: (Pm m b ++ R)) fun H => g (.ref T) (upds σ (up m b)) H fun σ2 H2 => tb ⟨fun σ' H' => ∃ m b, nxt m ∧ σ' = upds σ (up m b) ∧ Holds (Pm m b ++ R) H', rt, nx, fun σ' H' => ∃ m b, nxt m ∧ σ' = upds σ (up m b) ∧ Holds (Pm m b ++ R) H'⟩ σ2 H2)
    (hd : ∀ m b, k m → Ent (Pm m b ++ R) (nx (upds σ (up m b)))) : Ent L fun H => kEnum K (kLoop g tb ⟨nx, rt, bk, ct⟩ σ) [v] H := fun H h => by
  have fr : ∀ m b H', Holds (Pm m b ++ R) H' → (kFz E).P H' v xs := fun m b H' z => by
    obtain ⟨S, z⟩ := z
    obtain ⟨S1, S2, _, z2, _⟩ := HL.app.mp z
    exact t.vl ⟨S2, z2⟩
  obtain ⟨a, o, us, rfl, h1, h2⟩ := id (fr m0 b0 H (s0.to h))
  exact ⟨a, us, rfl, .inl (.inr ⟨o, h1⟩), forEn_core (walk_enF E a xs) hm up Pm b0 h0 s0 fr hs hd h⟩
theorem c_forEnT {m0 : M} {bd : Int × α → M → (M → Prop) → (M → Prop) → Prop} {k : M → Prop} {g : TG} {tb : TS} (hm : forL (enI xs) m0 bd k) (up : M → B → List (Option (Option V))) (Pm : M → B → List HA) (b0 : B) (h0 : σ = upds σ (up m0 b0)) (s0 : Sub L (Pm m0 b0 ++ R)) (t : Is (kT E) R v xs)
    (hs : (∀ m b, k m → Ent (Pm m b ++ R) (nx (upds σ (up m b)))) → ∀ x m b (nxt : M → Prop), bd x m nxt k → ∀ T v, Ent (tu T [.int x.1, v] :: vl E v x.2 :: (Pm m b ++ R)) fun H => g (.ref T) (upds σ (up m b)) H fun σ2 H2 => tb ⟨fun σ' H' => ∃ m b, nxt m ∧ σ' = upds σ (up m b) ∧ Holds (Pm m b ++ R) H', rt, nx, fun σ' H' => ∃ m b, nxt m ∧ σ' = upds σ (up m b) ∧ Holds (Pm m b ++ R) H'⟩ σ2 H2)
    (hd : ∀ m b, k m → Ent (Pm m b ++ R) (nx (upds σ (up m b)))) : Ent L fun H => kEnumT K (kLoop g tb ⟨nx, rt, bk, ct⟩ σ) [v] H := fun H h => by
  have fr : ∀ m b H', Holds (Pm m b ++ R) H' → (kT E).P H' v xs := fun m b H' z => by
    obtain ⟨S, z⟩ := z
    obtain ⟨S1, S2, _, z2, _⟩ := HL.app.mp z
    exact t H' ⟨S2, z2⟩
  obtain ⟨a, us, rfl, h1, h2⟩ := id (fr m0 b0 H (s0.to h))
  exact ⟨a, us, rfl, h1, forEn_core (walk_enT E a xs) hm up Pm b0 h0 s0 fr hs hd h⟩
theorem ty_ptL {us : List V} (t : Take (pt l (.lst us)) L R) : ∀ H, Holds L H → TyX K H (.ref l) (.type "list") := fun H h => .base (.lst (t.pt h))
theorem c_opnLenT {Es : Els K α} {x : α} (t : Take (vl (kTup Es) v x) L R) (q : ∀ a us, v = .ref a → Ent (vEls Es us x :: tu a us :: L) fun H => rLenK K [v] H Q) : Ent L fun H => rLenK K [v] H Q := Ent.tupO t q
end
end Toy
namespace Toy
open PySem L2 PySem.Spec PyProof.Rows
/-! ## calls that may let an exception out, the slots kept -/
section
variable {X : Cx} {CX : CXT} {k n i : Nat} {f : Addr} {fd : FuncData} {ps ks : List Str} {sp : Sp} {E : L2.St → XK} {x : Str} {p pos : Pos} {e : Expr} {es : List Expr} {kws : List Keyword} {t tk : TA} {g : List Value → List Value → List Value} {gV : List V → List V → List V}
theorem run_fnNS {pins : List (Addr × Obj)} {σ : L2.St} {H : Hp} {s : Shared} {Q : VK} {us ws : List Value} {vs zs : List V} (F : FnOk X.prog X.w X.K X.mg X.base CX k f fd ps sp) (hr : Room k X.A) (hb : KBn X.K fd ps n ks g gV) (hx : PassesAt CX X σ (E σ))
    (I : Inv X pins σ H s) (r : Vals vs us) (rz : Vals zs ws) (l1 : vs.length = n) (l2 : zs.length = ks.length) (h : sp (gV vs zs) H Q (E σ)) : wpAny (model X.prog X.w) X.A (call (.ref f) us (ks.zip ws)) (EP X pins σ Q) X.xe s := by
  have r2 := hb.rel r rz
  refine wpAny_call (codeAny_mono (F.run X.A X.stack s H ⟨us, ks.zip ws⟩ (g us ws) (gV vs zs) Q (E σ) hr I.env0 (hb.to s us ws I.kIn (r.length.symm.trans l1) (rz.length.symm.trans l2)) r2 h) fun r s' hq => ?_)
  cases r with
  | error e => exact hx pins H s e s' I hq
  | ok fl =>
    cases fl with
    | ret u => exact I.after hq
    | next => exact False.elim hq
    | brk => exact False.elim hq
    | cont => exact False.elim hq
def tCallNS (j l : Nat) (sp : Sp) (gV : List V → List V → List V) (E : L2.St → XK) (t tk : TA) : TE := fun σ H Q => t σ H fun vs H1 => tk σ H1 fun zs H2 => vs.length = j ∧ zs.length = l ∧ sp (gV vs zs) H2 Q (E σ)
/-- f(k = v, ..) in a try -/
theorem pe_callN0S (F : FnOk X.prog X.w X.K X.mg X.base CX k f fd ps sp) (hr : Room k X.A) (hg : Gl X x) (hm : X.mg x = some (.ref f)) (hk : PySem.W.keepIn X.K (.ref f) = true) (hb : KBn X.K fd ps 0 ks g gV) (hx : ∀ σ, PassesAt CX X σ (E σ)) (hkw : PK X kws tk)
    (hall : (backToKw pos (keywordEach kws X.env)).all (·.1.isSome) = true := by rfl) (hks : (backToKw pos (keywordEach kws X.env)).filterMap (·.1) = ks := by rfl)
    (hdb : (x == ("__debug__" : Str)) = false := by decide)
    (hpl : ((backTo pos (starEach [] X.env)).any (·.1) || (backToKw pos (keywordEach kws X.env)).any (·.1.isNone)) = false := by rfl) :
    PE X (.Call (.Name x p) [] kws pos) (tCallNS 0 ks.length sp gV E tNil tk) := by
  refine ⟨fun pins s σ H Q I h => ?_⟩
  refine wpAny_Call_Name_kw (ld_glob I hg hm ?_ hdb)
  refine PySem.W.callWith_KW0 (h₀ := X.base) I.ok.mod.kin hk hall ?_ hpl
  refine thn (hkw.run pos pins s σ H _ I h) fun ws s2 ⟨zs, H2, I2, rz, l1, l2, q2⟩ => ⟨I2.kIn, ?_⟩
  rw [hks]
  exact run_fnNS (us := []) (vs := []) F hr hb (hx σ) I2 .nil rz rfl l2 q2
/-- a def that a local holds, one of several: each with its promise, and what it may let out -/
structure HeldX (P : Program) (w : World) (K : PySem.W.Frag) (mg : Str → Option Value) (base : Heap) (k : Nat) (f : Addr) (sp : Sp) : Prop where
  ex : ∃ (l : Nat) (fd : FuncData) (ps : List Str), l ≤ k ∧ FnOk P w K mg base (L2.CX P w) l f fd ps sp ∧ PySem.W.keepIn K (.ref f) = true ∧ Binds K fd ps []
def tCallX (i : Nat) (S : Addr → Sp → Prop) (E : L2.St → XK) (t : TA) : TE := fun σ H Q => ∃ f sp, σ[i]? = some (some (.ref f)) ∧ S f sp ∧ t σ H fun vs H1 => sp vs H1 Q (E σ)
theorem pe_callX {S : Addr → Sp → Prop} (A : ∀ f sp, S f sp → HeldX X.prog X.w X.K X.mg X.base k f sp) (hr : Room k X.A) (hN : X.N[i]? = some x) (hv : Vis X.env.scope x) (hx : ∀ σ, PassesAt (L2.CX X.prog X.w) X σ (E σ)) (ha : PA X (e :: es) t)
    (hdb : (x == ("__debug__" : Str)) = false := by decide) (hcd : (x == ("__classdict__" : Str)) = false := by decide)
    (he : starEach (e :: es) X.env = (false, eval e X.env) :: starEach es X.env := by rfl) (hpl : (backTo pos (starEach es X.env)).any (·.1) = false := by rfl) : PE X (.Call (.Name x p) (e :: es) [] pos) (tCallX i S E t) := by
  refine ⟨fun pins s σ H Q I h => ?_⟩
  obtain ⟨f, sp, hs, hS, ht⟩ := h
  obtain ⟨l, fd, ps, hl, F, hk, hb⟩ := (A f sp hS).ex
  refine wpAny_Call_Name_kw (thn ((pe_var (pos := p) hN hv hdb hcd).run pins s σ H (fun v H1 => v = .ref f ∧ H1 = H) I ⟨.ref f, hs, rfl, rfl⟩) fun u s1 ⟨v, H1, I1, r1, q1⟩ => ?_)
  obtain ⟨rfl, rfl⟩ := q1
  cases r1
  refine PySem.W.callWith_K (h₀ := X.base) I.ok.mod.kin hk (thn (ha.run pos pins s1 σ _ _ I1 ht) fun us s2 ⟨vs, H2, I2, r, q⟩ => ⟨I2.kIn, ?_⟩) he hpl
  exact run_fnS F (hr.mono hl) hb (hx σ) I2 r q
/-- what a def's own wish takes, a call of it may let out -/
theorem pass_own {X : Cx} {E : XK} (tk : Takes X fun cls d _ H => E cls d H) (σ : L2.St) : PassesAt (L2.CX X.prog X.w) X σ ((fun _ => E) σ) := fun pins H s e s' I c => tk e s' (XE.of_call I (fun _ _ _ h => h) c)
end
/-! ## C(), C's own __init__ taking nothing -/
section
variable {X : Cx} {CX : CXT} {x : Str} {C fI : Addr} {k : Nat} {fd : FuncData} {ps : List Str} {sp : Sp} {ds : List Value} {dvs : List V} {p pos : Pos}
theorem pmk_oex0 (T : OexC X.K C) (iC : PySem.W.findIn X.K (.ref C) "__init__" = some (some (.ref fI)))
    (tI : PySem.W.typeIn X.K (.ref fI) = some (.type "function")) (F1 : FnOk X.prog X.w X.K X.mg X.base CX k fI fd ps sp)
    (hr : Room (k + 1) X.A) (hb : Binds X.K fd ps ds) (hd : Vals dvs ds) (hx : Passes CX X (fun _ _ _ => False)) (hg : Gl X x)
    (hm : X.mg x = some (.ref C)) (hdb : (x == ("__debug__" : Str)) = false := by decide) : PMk X (.Call (.Name x p) [] [] pos) (tMkO C sp dvs tNil) := by
  intro pins s σ H Q I h
  obtain ⟨a1, a2, a3, a4, a5, a6, a7, a8, a9, b1, b2, b3, b4, b5, b6, hC, hbm⟩ := T.cls
  refine wpAny_Call_Name_kw (ld_glob I hg hm ?_ hdb)
  refine PySem.W.callWith_K0 I.kIn T.kC ?_
  obtain ⟨hp, g, dr, tk, os⟩ := s
  have hs : hp.objs.size ≤ hp.objs.size + 1 := Nat.le_succ _
  have hq := h.2 (hp.objs.size + 1) (I.hok.fresh hs)
  have old : ∀ b o, hp.get? b = some o → ((hp.push (PySem.W.kdv_tup ([] ++ []))).push (PySem.HandSPX.excO C hp.objs.size)).get? b = some o :=
    fun b o e => Heap.get?_push_of_some _ (Heap.get?_push_of_some _ e)
  have new : ((hp.push (PySem.W.kdv_tup ([] ++ []))).push (PySem.HandSPX.excO C hp.objs.size)).get? (hp.objs.size + 1) = some (PySem.HandSPX.excO C hp.objs.size) := by heap_get
  have J : Inv X pins σ (L2.upd H (hp.objs.size + 1) (exo (hp.objs.size + 1) C none)) ⟨(hp.push (PySem.W.kdv_tup ([] ++ []))).push (PySem.HandSPX.excO C hp.objs.size), g, dr, tk, os⟩ :=
    I.laid (t' := tk) old hs (exo_ok new)
  have vals : Vals (V.ref (hp.objs.size + 1) :: ([] ++ dvs)) ([Value.ref (hp.objs.size + 1)] ++ ds) := .cons rfl hd
  have len : ([Value.ref (hp.objs.size + 1)] ++ ds).length = ps.length := by
    have e := vals.length
    rw [F1.len _ _ _ _ hq] at e
    exact e.symm
  refine wpAny_call (PySem.HandSPX.call_own F.excBase_ValueError (fun Y => PySem.HandSPX.refsVE_contains Y _ hbm) (I.kIn _ _ hC)
    (PySem.W.looks_findIn I.kIn iC) (fun self => PySem.W.bind_fn I.kIn self tI) (by rw [sizeLine_eq]; decide)
    (codeAny_mono (F1.run _ X.stack _ _ ⟨[Value.ref (hp.objs.size + 1)], []⟩ ([Value.ref (hp.objs.size + 1)] ++ ds) _ _ (fun _ _ _ => False)
      (hr.make C [] []) (J.env0.make C [] []) (hb _ [Value.ref (hp.objs.size + 1)] J.kIn len) vals hq) fun r s' fin => ?_))
  match r with
  | .error er => exact hx pins σ _ _ er s' J fin
  | .ok .next => exact fin.elim
  | .ok .brk => exact fin.elim
  | .ok .cont => exact fin.elim
  | .ok (.ret u) =>
    obtain ⟨v, H2, c1, c2, un2, c4, rv, ev, d, fs, ea, ed, hd1, q2⟩ := fin
    obtain ⟨h2, g2, d2, t2, os'⟩ := s'
    subst ev
    exact ⟨rv, mk_end (raises_own T.exC T.tyC) I hs old un2 c4 c1 c2 ea ed hd1 q2⟩
end
/-! ## in the logic of places -/
section
variable {K : PySem.W.Frag} {L R : List HA} {Q : VK} {σ : L2.St} {H : Hp} {t tk ta : TA} {sp : Sp} {E : L2.St → XK} {gV : List V → List V → List V}
theorem e_callS0 (q : Ent L fun H => t σ H fun vs H1 => sp vs H1 Q (E σ)) : Ent L fun H => tCallS sp E t σ H Q := q
theorem e_callNS0 {j l : Nat} (q : Ent L fun H => t σ H fun vs H1 => tk σ H1 fun zs H2 => vs.length = j ∧ zs.length = l ∧ sp (gV vs zs) H2 Q (E σ)) : Ent L fun H => tCallNS j l sp gV E t tk σ H Q := q
theorem e_callX0 {i : Nat} {f : Addr} {S : Addr → Sp → Prop} (hs : σ[i]? = some (some (.ref f))) (hS : S f sp) (q : Ent L fun H => t σ H fun vs H1 => sp vs H1 Q (E σ)) : Ent L fun H => tCallX i S E t σ H Q := fun H h => ⟨f, sp, hs, hS, q H h⟩
/-! an own exception made and raised -/
def spCoreN (K : PySem.W.Frag) : Sp := fun vs H Q _ => ∃ (x C : Addr), vs = [.ref x] ∧ OexC K C ∧ PySem.W.findIn K (.ref C) "value" = some none ∧ H x = some (exo x C none) ∧
  ∀ dx, H dx = none → dx ≠ x → Q .non (L2.upd (L2.upd H dx (exd dx [("value", .non)])) x (exo x C (some dx)))
def kMko (C : Addr) (sp : Sp) (dvs : List V) (Q : XK) (vs : List V) (H1 : Hp) : Prop := vs.length ≤ 1000 ∧ ∀ a, H1 a = none → sp (.ref a :: (vs ++ dvs)) (L2.upd H1 a (exo a C none))
  (fun v H2 => v = .non ∧ ∃ (d : Addr) (fs : List (Str × V)), H2 a = some (exo a C (some d)) ∧ H2 d = some (exd d fs) ∧ H1 d = none ∧ Q (.ref C) (some d) (L2.upd (del H2 a) d (.xd fs))) (fun _ _ _ => False)
theorem e_mko0 {C : Addr} {dvs : List V} {Qx : XK} (q : Ent L fun H => ta σ H fun vs H1 => kMko C sp dvs Qx vs H1) : Ent L fun H => tMkO C sp dvs ta σ H Qx := q
theorem w_coreN {C : Addr} {Q : XK} (hC : OexC K C) (hn : PySem.W.findIn K (.ref C) "value" = some none) (q : ∀ d H', Same H H' → H d = none → H' d = some (.xd [("value", .non)]) → Q (.ref C) (some d) H') : kMko C (spCoreN K) [] Q [] H := by
  refine ⟨by show 0 ≤ 1000; decide, fun x nx => ⟨x, C, rfl, hC, hn, upd_same, fun dx ndx hne => ⟨rfl, dx, _, upd_same, (upd_ne hne).trans upd_same, ?_, q dx _ ?_ ?_ upd_same⟩⟩⟩
  · rw [upd_ne hne] at ndx
    exact ndx
  · intro b o e
    have hb : b ≠ x := ne_of_none e nx
    have hd : b ≠ dx := by
      intro z
      rw [z] at e
      rw [upd_ne hne, e] at ndx
      cases ndx
    rw [upd_ne hd, del_ne hb, upd_ne hb, upd_ne hd, upd_ne hb]
    exact e
  · rw [upd_ne hne] at ndx
    exact ndx
theorem e_coreN {C : Addr} {Qx : XK} (hC : OexC K C) (hn : PySem.W.findIn K (.ref C) "value" = some none) (q : ∀ d, Ent (im d (.xd [("value", .non)]) :: L) (Qx (.ref C) (some d))) : Ent L fun H => kMko C (spCoreN K) [] Qx [] H := fun H h =>
  w_coreN hC hn fun d H' s _ e => q d H' ((h.same s).addI e rfl)
theorem e_coreV {C : Addr} {v : V} {Qx : XK} (hC : OexC K C) (hn : PySem.W.findIn K (.ref C) "value" = some none) (q : ∀ d, Ent (im d (.xd [("value", v)]) :: L) (Qx (.ref C) (some d))) : Ent L fun H => kMko C (spCore K) [] Qx [v] H := fun H h =>
  w_core hC hn fun d H' s _ e => q d H' ((h.same s).addI e rfl)
/-- the handler of a try takes what flies -/
theorem e_only {c cls : Value} {ts : Addr → Value → Option Addr → TS} {Wout : WX} {D : Ends} {d : Option Addr} (h : PySem.W.exmOne K cls c = some true) (q : ∀ a, Ent L fun H => ts a cls d D σ H) : Ent L fun H => WE (wOnly K c ts Wout D) σ cls d H := fun H z => w_only h fun a _ => q a H z
end
/-! ## the sum of a tuple of whole numbers -/
section
variable {X : Cx}
def rSumT (K : PySem.W.Frag) : List V → Hp → VK → Prop := fun vs H Q => ∃ (a : Addr) (ns : List Int), vs = [V.ref a] ∧ SqT K H a (ns.map V.int) ∧ Q (.int ns.sum) H
theorem sumT_raw {prog : Program} {w : World} {A : Around} {E : Value → Shared → Prop} {s : Shared} {l : Addr} {its : List Value} {ns : List Int} {Q : Value → Shared → Prop} (hh : A.handled = none) (hl : s.heap.IsTuple l its.toArray) (hi : IntsAre its ns)
    (h : ∀ h' tk t', (∀ b o, s.heap.get? b = some o → h'.get? b = some o) → Q (.int ns.sum t') { s with heap := h', toks := tk }) : wpAny (model prog w) A (call (.builtin "sum") [.ref l]) Q E s := by
  obtain ⟨xs, e⟩ := hi.allInts.items
  have hn : numsOf (intItems xs).toList = ns := by rw [← e]; exact hi.numsOf
  rw [nums_intItems] at hn
  rw [e] at hl
  refine PySem.W.ktm_sumG hh hl fun h' tk t' hk => ?_
  have := h h' tk t' hk
  rw [preSum_eq, List.take_of_length_le (by simp), hn]; exact this
theorem cr_sumT {K : PySem.W.Frag} (hc : X.calm = true) (hK : X.K = K := by rfl) : CallR X (.builtin "sum") (rSumT K) := by
  subst hK
  intro pins s σ H vs us Q I r h
  obtain ⟨a, ns, rfl, hs, q⟩ := h
  obtain ⟨its, rv, hl, _⟩ := I.tuple hs
  rw [Vals.ref1 r]
  exact sumT_raw (I.ok.hd hc) hl rv.ints fun h' tk t' hk => ⟨.int _, H, I.kept hk, ⟨_, rfl⟩, q⟩
end
section
variable {K : PySem.W.Frag} {L R : List HA} {Q : VK} {a : Addr} {v : V}
theorem c_sumT2 {x y : Int} (h : HasT K L a [.int x, .int y]) (q : Ent L (Q (.int (x + (y + 0))))) : Ent L fun H => rSumT K [.ref a] H Q := fun H z => ⟨a, [x, y], rfl, h H z, q H z⟩
theorem c_sumTv {xs : List Int} (h : Is (kT (kI (K := K))) L v xs) (q : Ent L (Q (.int xs.sum))) : Ent L fun H => rSumT K [v] H Q := fun H z => by
  obtain ⟨b, ws, rfl, g1, g2⟩ := h H z
  have e : ws = xs.map V.int := by
    clear g1 q h z
    induction g2 with
    | nil => rfl
    | cons a _ ih => rw [List.map_cons, ← ih]; congr 1
  subst e
  exact ⟨b, xs, rfl, g1, q H z⟩
end
/-! ## a written dict with text keys, of one kind -/
section
variable {K : PySem.W.Frag} {α : Type} {L R : List HA} {Q : VK} {E : El K α} {p : Addr} {ds : List (Str × α)} {kvs : List (L2.Key × V)} {ps : List (V × V)} {v : V} {x : α} {k : Str}
theorem isD_nil : ∀ H, Holds L H → All2 (DkR fS E H) [] [] := fun _ _ => .nil
theorem isD_c (h : Is E L v x) (g : ∀ H, Holds L H → All2 (DkR fS E H) kvs ds) : ∀ H, Holds L H → All2 (DkR fS E H) ((fS k, v) :: kvs) ((k, x) :: ds) := fun H z => .cons ⟨rfl, h H z⟩ (g H z)
theorem mkDk (t : Take (pt p (.dK [])) L R) (ep : ps = kvs.map (fun kv => (kV kv.1, kv.2))) (hl : kvs.length ≤ 15) (e : mergeK [] kvs = kvs) (h : ∀ H, Holds R H → All2 (DkR fS E H) kvs ds) (q : Ent (dk fS E p ds :: R) (Q (.ref p))) : Ent L fun H => kDisp p Q ps H :=
  mkR t ep hl e fun H z => q H (z.dk_mk (h H (Sub.to (Sub.drop Sub.refl) z)))
end
end Toy
namespace Toy
open PySem L2 PySem.Spec PyProof.Rows
/-! ## for p in zip(xs, ys): the name holds the tuple that came first, so the zip makes each tuple anew -/
section
variable {X : Cx} {z TI TO i1 i2 a b : Addr}
def ZSt (z TI TO i1 i2 a b : Addr) (i : Nat) (c : Option Addr) (h : Heap) : Prop :=
  (c = none ∧ IsZip h z TI TO .none ∨ ∃ T f, c = some T ∧ IsZipHeld h z TI TO T f) ∧
    IsPair h TI (.ref i1) (.ref i2) ∧ (∃ x y, IsPair h TO x y) ∧ h.IsListIter i1 a i ∧ h.IsListIter i2 b i
theorem ZSt.keep {i : Nat} {c : Option Addr} {h h' : Heap} (st : ZSt z TI TO i1 i2 a b i c h) (k : ∀ e ∈ [z, TI, TO, i1, i2], ∀ o, h.get? e = some o → h'.get? e = some o) : ZSt z TI TO i1 i2 a b i c h' := by
  obtain ⟨hz, q1, ⟨x, y, q2⟩, q3, q4⟩ := st
  have kz := k z (by simp)
  refine ⟨?_, k TI (by simp) _ q1, ⟨x, y, k TO (by simp) _ q2⟩, q3.at (k i1 (by simp)), q4.at (k i2 (by simp))⟩
  rcases hz with ⟨e, q⟩ | ⟨T, f, e, q⟩
  · exact .inl ⟨e, kz _ q⟩
  · exact .inr ⟨T, f, e, kz _ q⟩
theorem ZSt.obj {i : Nat} {c : Option Addr} {h : Heap} (st : ZSt z TI TO i1 i2 a b i c h) : ∀ e ∈ [z, TI, TO, i1, i2], ∃ o, h.get? e = some o ∧ ∀ v, o.data ≠ .cell v := by
  obtain ⟨hz, q1, ⟨x, y, q2⟩, ⟨o1, e1, _, d1⟩, ⟨o2, e2, _, d2⟩⟩ := st
  intro e he
  simp only [List.mem_cons, List.not_mem_nil, or_false] at he
  rcases he with e0 | e0 | e0 | e0 | e0 <;> rw [e0]
  · rcases hz with ⟨_, q⟩ | ⟨T, f, _, q⟩
    · exact ⟨_, q, fun v w => nomatch w⟩
    · exact ⟨_, q, fun v w => nomatch w⟩
  · exact ⟨_, q1, fun v w => nomatch w⟩
  · exact ⟨_, q2, fun v w => nomatch w⟩
  · exact ⟨o1, e1, fun v w => by rw [d1] at w; cases w⟩
  · exact ⟨o2, e2, fun v w => by rw [d2] at w; cases w⟩
theorem zst_item {E : Value → Shared → Prop} {pins : List (Addr × Obj)} {σ : L2.St} {H : Hp} {s : Shared} {i : Nat} {c : Option Addr} {xs ys : List V} {x y : V} (D : ZipApart z TI TO i1 i2 a b) (I : Inv X pins σ H s)
    (hf : ∀ e ∈ [z, TI, TO, i1, i2], FpOk X pins H e) (st : ZSt z TI TO i1 i2 a b i c s.heap) (hx : SqL X.K H a xs) (hy : SqL X.K H b ys) (gx : xs[i]? = some x) (gy : ys[i]? = some y)
    (hT : ∀ T, c = some T → ∃ us, H T = some (.tup us)) :
    wpAny (model X.prog X.w) X.A (pyNext (.ref z)) (fun r s1 => ∃ T, r = some (.ref T) ∧ H T = none ∧ Inv X pins σ (L2.upd H T (.tup [x, y])) s1 ∧ ZSt z TI TO i1 i2 a b (i + 1) (some (c.getD T)) s1.heap ∧ ∀ e ∈ [z, TI, TO, i1, i2], L2.upd H T (.tup [x, y]) e = none) E s := by
  have live := st.obj
  obtain ⟨hz, q1, ⟨x0, y0, q2⟩, q3, q4⟩ := st
  obtain ⟨us, ru, pu, _⟩ := I.list hx
  obtain ⟨ws, rw', pw, _⟩ := I.list hy
  obtain ⟨u, hu, r1⟩ := ru.get gx
  obtain ⟨v, hv, r2⟩ := rw'.get gy
  have free : H s.heap.objs.size = none := I.hok.fresh (Nat.le_refl _)
  have apart : ∀ e ∈ [z, TI, TO, i1, i2], L2.upd H s.heap.objs.size (.tup [x, y]) e = none := fun e he => by
    obtain ⟨o, eo, _⟩ := live e he
    rw [upd_ne (Nat.ne_of_lt (Heap.lt_size eo))]
    exact (hf e he).1
  have grow : ∀ (h' : Heap), IsPair h' s.heap.objs.size u v → (∀ e o, e ∉ [z, TI, TO, i1, i2] → s.heap.get? e = some o → h'.get? e = some o) → Inv X pins σ (L2.upd H s.heap.objs.size (.tup [x, y])) { s with heap := h' } := fun h' hp k =>
    I.turnedNew (t' := s.toks) (ch := [z, TI, TO, i1, i2]) (fun e o he => k e o he) hf (Nat.le_refl _) ⟨by show 2 ≤ sizeLine; decide, [u, v], .cons r1 (.cons r2 .nil), ⟨_, hp, rfl, _, rfl⟩⟩
  have gu : us.toArray[i]? = some u := by simpa using hu
  have gv : ws.toArray[i]? = some v := by simpa using hv
  rcases hz with ⟨ec, hz⟩ | ⟨T, f, ec, hz⟩
  · subst ec
    refine wpAny_pyNext_zip_item D hz q1 q2 q3 q4 pu.isList pw.isList gu gv fun h' a1 a2 a3 a4 a5 _ a7 => ?_
    refine ⟨_, rfl, free, grow h' a5 fun e o he => a7 e o (fun w => he (by simp [w])) (fun w => he (by simp [w])) (fun w => he (by simp [w])) (fun w => he (by simp [w])), ⟨.inr ⟨_, false, rfl, a1⟩, ?_, ⟨u, v, a2⟩, a3, a4⟩, apart⟩
    exact a7 _ _ D.TIz D.TITO D.TIi1 D.TIi2 q1
  · obtain ⟨ts, eT⟩ := hT T ec
    subst ec
    obtain ⟨os, _, ⟨oT, hoT, _⟩, _⟩ := I.tuple (SqT.of eT)
    refine wpAny_pyNext_zip_item_held D hz hoT q1 q3 q4 pu.isList pw.isList gu gv fun h' a1 a3 a4 a5 _ a7 => ?_
    refine ⟨_, rfl, free, grow h' a5 fun e o he => a7 e o (fun w => he (by simp [w])) (fun w => he (by simp [w])) (fun w => he (by simp [w])), ⟨.inr ⟨T, true, rfl, a1⟩, ?_, ⟨x0, y0, ?_⟩, a3, a4⟩, apart⟩
    · exact a7 _ _ D.TIz D.TIi1 D.TIi2 q1
    · exact a7 _ _ D.TOz D.TOi1 D.TOi2 q2
theorem zst_done {E : Value → Shared → Prop} {pins : List (Addr × Obj)} {σ : L2.St} {H : Hp} {s : Shared} {i : Nat} {c : Option Addr} {xs ys : List V} (hc : X.calm = true) (D : ZipApart z TI TO i1 i2 a b) (I : Inv X pins σ H s)
    (hf : ∀ e ∈ [z, TI, TO, i1, i2], FpOk X pins H e) (st : ZSt z TI TO i1 i2 a b i c s.heap) (hx : SqL X.K H a xs) (hy : SqL X.K H b ys) (hn : xs.length ≤ i ∨ ys.length ≤ i)
    (hT : ∀ T, c = some T → ∃ us, H T = some (.tup us)) : wpAny (model X.prog X.w) X.A (pyNext (.ref z)) (fun r s1 => r = none ∧ Inv X pins σ H s1) E s := by
  obtain ⟨hz, q1, ⟨x0, y0, q2⟩, q3, q4⟩ := st
  obtain ⟨us, ru, pu, _⟩ := I.list hx
  obtain ⟨ws, rw', pw, _⟩ := I.list hy
  have n1 := ru.length
  have n2 := rw'.length
  have fin : us.toArray[i]? = none ∨ ws.toArray[i]? = none := by
    rcases hn with w | w
    · exact .inl (by simp; omega)
    · exact .inr (by simp; omega)
  rcases hz with ⟨ec, hz⟩ | ⟨T, f, ec, hz⟩
  · refine wpAny_pyNext_zip_end (I.ok.hd hc) D hz q1 q2 q3 q4 pu.isList pw.isList fin fun h' k => ⟨rfl, ?_⟩
    exact I.turnedL (t' := s.toks) (ch := [z, TI, TO, i1, i2]) (fun e o he => k e o (fun w => he (by simp [w])) (fun w => he (by simp [w])) (fun w => he (by simp [w])) (fun w => he (by simp [w]))) hf
  · obtain ⟨ts, eT⟩ := hT T ec
    obtain ⟨os, _, ⟨oT, hoT, _⟩, _⟩ := I.tuple (SqT.of eT)
    refine wpAny_pyNext_zip_end_held (I.ok.hd hc) D hz hoT q1 q3 q4 pu.isList pw.isList fin fun h' k => ⟨rfl, ?_⟩
    exact I.turnedL (t' := s.toks) (ch := [z, TI, TO, i1, i2]) (fun e o he => k e o (fun w => he (by simp [w])) (fun w => he (by simp [w])) (fun w => he (by simp [w]))) hf
def kForZN (K : PySem.W.Frag) (g : TG) (tb : TS) (D : Ends) (σ : L2.St) (vs : List V) (H1 : Hp) : Prop := ∃ (a b : Addr) (us ws : List V) (n : Nat) (W : Nat → Option Addr → L2.St → Hp → Prop), vs = [.ref a, .ref b] ∧ SqL K H1 a us ∧ SqL K H1 b ws ∧ W 0 none σ H1 ∧ ∀ i c σ' H', W i c σ' H' →
  (∀ T, c = some T → ∃ us, H' T = some (.tup us)) ∧ ∃ xs ys, SqL K H' a xs ∧ SqL K H' b ys ∧ ((n ≤ i ∧ (xs.length ≤ i ∨ ys.length ≤ i) ∧ D.nx σ' H') ∨ (i < n ∧ ∃ x y, xs[i]? = some x ∧ ys[i]? = some y ∧
    ∀ T, H' T = none → ∃ N : L2.St → Hp → Prop, (∀ σ3 H3, N σ3 H3 → W (i + 1) (some (c.getD T)) σ3 H3) ∧ g (.ref T) σ' (L2.upd H' T (.tup [x, y])) fun σ2 H2 => tb ⟨N, D.rt, D.nx, N⟩ σ2 H2))
def tForZN (K : PySem.W.Frag) (ta : TA) (g : TG) (tb : TS) : TS := fun D σ H => ta σ H fun vs H1 => kForZN K g tb D σ vs H1
theorem ps_forZN {e e2 : Expr} {y : Str} {body : List Stmt} {ta : TA} {g : TG} {tb : TS} {p p2 tp pos : Pos} (hp : PassesOwn (model X.prog X.w) X.A X.env X.xe) (hc : X.calm = true) (hg : Gl X "zip") (hm : X.mg "zip" = none) (ha : PA X [e, e2] ta) (hgt : PG X (.Name y tp) g) (hb : PSs X body tb)
    (hst : starEach [e, e2] X.env = (false, eval e X.env) :: starEach [e2] X.env := by rfl) (hpl : (backTo p2 (starEach [e2] X.env)).any (·.1) = false := by rfl)
    (hs : ∀ x, foldedSetIterable (.Call (.Name "zip" p) [e, e2] [] p2) X.env x = pure x := by intro _; rfl) : PS X (.For (.Name y tp) (.Call (.Name "zip" p) [e, e2] [] p2) body [] pos) (tForZN X.K ta g tb) := by
  refine ⟨fun pins s σ H D I h => ?_⟩
  refine wpAny_For (Call_ (ld_blt I hg hm PyProof.Rows.boot_zip (PyProof.Rows.callWith_type1 (thn (ha.run p2 pins s σ H _ I h) fun us s1 ⟨vs, H1, I1, r1, q1⟩ => ?_) hst hpl))) hs
  obtain ⟨a, b, us0, ws0, n, W, ex, hxa, hyb, w0, turn⟩ := q1
  subst ex
  obtain ⟨va, vb, rfl⟩ : ∃ va vb, us = [va, vb] := by
    cases r1 with
    | cons r rr => cases rr with
      | cons r' rr => cases rr; exact ⟨_, _, rfl⟩
  obtain rfl : va = Value.ref a := by cases r1 with | cons r rr => exact r
  obtain rfl : vb = Value.ref b := by cases r1 with | cons r rr => cases rr with | cons r' _ => exact r'
  obtain ⟨its, _, pa, _⟩ := I1.list hxa
  obtain ⟨its2, _, pb, _⟩ := I1.list hyb
  refine call_zip_2 pa.isList pb.isList fun h' hz hTI hTO h1 h2 hsz hk => ?_
  refine wpAny_pyIter_zip hz ?_
  have I2 : Inv X pins σ H1 { s1 with heap := h' } := I1.kept (t' := s1.toks) hk
  have D5 := PySem.W.ktu_apart s1.heap.objs.size a b pa.lt pb.lt
  have S0 : ZSt (s1.heap.objs.size + 4) (s1.heap.objs.size + 2) (s1.heap.objs.size + 3) s1.heap.objs.size (s1.heap.objs.size + 1) a b 0 none h' := ⟨.inl ⟨rfl, hz⟩, hTI, ⟨_, _, hTO⟩, h1, h2⟩
  have F0 : ∀ e ∈ [s1.heap.objs.size + 4, s1.heap.objs.size + 2, s1.heap.objs.size + 3, s1.heap.objs.size, s1.heap.objs.size + 1], FpOk X pins H1 e := fun e he => by
    have big : s1.heap.objs.size ≤ e := by
      simp only [List.mem_cons, List.not_mem_nil, or_false] at he
      omega
    exact I1.fpOk big (I1.hok.fresh big)
  revert S0 F0 D5
  generalize s1.heap.objs.size + 4 = z, s1.heap.objs.size + 2 = TI, s1.heap.objs.size + 3 = TO, s1.heap.objs.size + 1 = i2
  generalize s1.heap.objs.size = i1
  intro D5 S0 F0
  have stay : ∀ {H' : Hp}, (∀ e ∈ [z, TI, TO, i1, i2], H' e = none) → ∀ e ∈ [z, TI, TO, i1, i2], FpOk X pins H' e := fun hn e he => ⟨hn e he, (F0 e he).2⟩
  refine codeAny_forLoop_any (fun m s' => ∃ i c σ' H', i + m = n ∧ Inv X pins σ' H' s' ∧ ZSt z TI TO i1 i2 a b i c s'.heap ∧ (∀ e ∈ [z, TI, TO, i1, i2], H' e = none) ∧ W i c σ' H') ?_ n ⟨0, none, σ, H1, Nat.zero_add n, I2, S0, fun e he => (F0 e he).1, w0⟩
  rintro m s3 ⟨i, c, σ3, H3, em, I3, S3, fr3, w3⟩
  obtain ⟨hT, xs, ys, hxs, hys, way⟩ := turn i c σ3 H3 w3
  rcases way with ⟨_, over, qn⟩ | ⟨lt, x, y', gx, gy, step⟩
  · refine wpAny_passesOwn hp (thn (zst_done (E := X.xe) hc D5 I3 (stay fr3) S3 hxs hys over hT) fun r s4 ⟨er, I4⟩ => ?_)
    subst er
    exact wpAny_execs_nil ⟨σ3, H3, I4, qn⟩
  · refine wpAny_passesOwn hp (thn (zst_item (E := X.xe) D5 I3 (stay fr3) S3 hxs hys gx gy hT) fun r s5 ⟨T, er, nT, I5, S5, fr5⟩ => ?_)
    subst er
    refine wpAny_pure ?_
    obtain ⟨N, hN, go⟩ := step T nT
    have I6 := I5.pinned (stay fr5) S5.obj
    refine wpAny_passesOwn hp (thn (hgt.run _ s5 σ3 _ (.ref T) (.ref T) _ I6 rfl go) fun _ s6 ⟨σ6, H6, I7, q6⟩ => ?_)
    refine wpAny_passesOwn hp (thn (hb.run _ s6 σ6 H6 _ I7 q6) fun f s7 q7 => ?_)
    have next : ∀ {σ7 : L2.St} {H7 : Hp}, Inv X (pins ++ pinsAt [z, TI, TO, i1, i2] s5.heap) σ7 H7 s7 → W (i + 1) (some (c.getD T)) σ7 H7 →
        ∃ k, k < m ∧ ∃ i c σ' H', i + k = n ∧ Inv X pins σ' H' s7 ∧ ZSt z TI TO i1 i2 a b i c s7.heap ∧ (∀ e ∈ [z, TI, TO, i1, i2], H' e = none) ∧ W i c σ' H' := fun {σ7 H7} J w7 => by
      have pin : ∀ {e : Addr} {o : Obj}, e ∈ [z, TI, TO, i1, i2] → s5.heap.get? e = some o → s7.heap.get? e = some o ∧ H7 e = none := fun {e o} he eo => by
        have q := J.pin (e, o) (List.mem_append_right _ (List.mem_append_right _ (mem_pinsAt he eo)))
        exact ⟨q.1, q.2.1⟩
      refine ⟨m - 1, by omega, i + 1, _, σ7, H7, by omega, J.unpinned, S5.keep fun e he o eo => (pin he eo).1, fun e he => ?_, w7⟩
      obtain ⟨o, eo, _⟩ := S5.obj e he
      exact (pin he eo).2
    cases f with
    | next => obtain ⟨σ7, H7, J, w7⟩ := q7; exact next J (hN _ _ w7)
    | cont => obtain ⟨σ7, H7, J, w7⟩ := q7; exact next J (hN _ _ w7)
    | brk => obtain ⟨σ7, H7, J, w7⟩ := q7; exact ⟨σ7, H7, J.unpinned, w7⟩
    | ret v => obtain ⟨x7, σ7, H7, J, r7, w7⟩ := q7; exact ⟨x7, σ7, H7, J.unpinned, r7, w7⟩
end
section
variable {K : PySem.W.Frag} {α β M B : Type} {L R R' R2 : List HA} {E : El K α} {F : El K β} {nx bk ct : L2.St → Hp → Prop} {rt : VK} {σ : L2.St} {tas : TA} {a b : Addr} {xs : List α} {ys : List β}
theorem e_forZN0 {g : TG} {tb : TS} (q : Ent L fun H => tas σ H fun us H1 => kForZN K g tb ⟨nx, rt, bk, ct⟩ σ us H1) : Ent L fun H => tForZN K tas g tb ⟨nx, rt, bk, ct⟩ σ H := q
def tuO (c : Option Addr) (us : List V) : HA := match c with
  | none => pu True
  | some T => tu T us
theorem c_forZN {m0 : M} {bd : α × β → M → (M → Prop) → (M → Prop) → Prop} {k : M → Prop} {g : TG} {tb : TS} (hm : forL (List.zip xs ys) m0 bd k) (up : M → B → List (Option (Option V))) (Pm : M → B → List HA) (b0 : B) (h0 : σ = upds σ (up m0 b0)) (s0 : Sub L (Pm m0 b0 ++ R)) (t : Take (ls E a xs) R R') (t2 : Take (ls F b ys) R R2)
    (hs : (∀ m b, k m → Ent (Pm m b ++ R) (nx (upds σ (up m b)))) → ∀ (C : HA) x m b (nxt : M → Prop), bd x m nxt k → ∀ T u w, Ent (vl F w x.2 :: vl E u x.1 :: tu T [u, w] :: (tu T [u, w] :: C :: (Pm m b ++ R))) fun H => g (.ref T) (upds σ (up m b)) H fun σ2 H2 =>
      tb ⟨fun σ' H' => ∃ m b, nxt m ∧ σ' = upds σ (up m b) ∧ Holds (tu T [u, w] :: C :: (Pm m b ++ R)) H', rt, nx, fun σ' H' => ∃ m b, nxt m ∧ σ' = upds σ (up m b) ∧ Holds (tu T [u, w] :: C :: (Pm m b ++ R)) H'⟩ σ2 H2)
    (hd : ∀ m b, k m → Ent (Pm m b ++ R) (nx (upds σ (up m b)))) : Ent L fun H => kForZN K g tb ⟨nx, rt, bk, ct⟩ σ [.ref a, .ref b] H := fun H h => by
  have fr : ∀ m b H', Holds (Pm m b ++ R) H' → Holds R H' := fun m b H' z => by
    obtain ⟨S, z⟩ := z
    obtain ⟨S1, S2, _, z2, _⟩ := HL.app.mp z
    exact ⟨S2, z2⟩
  have hR := fr m0 b0 H (s0.to h)
  obtain ⟨us0, h1, _⟩ := t.ls hR
  obtain ⟨ws0, g1, _⟩ := t2.ls hR
  have hz : Holds (tuO none [] :: (Pm m0 b0 ++ R)) H := Sub.to (L := Pm m0 b0 ++ R) (Sub.pu trivial Sub.refl) (s0.to h)
  refine ⟨a, b, us0, ws0, (List.zip xs ys).length, fun i c σ' H' => ∃ m b' vs, forL ((List.zip xs ys).drop i) m bd k ∧ i ≤ (List.zip xs ys).length ∧ σ' = upds σ (up m b') ∧ Holds (tuO c vs :: (Pm m b' ++ R)) H', rfl, SqL.of h1, SqL.of g1, ⟨m0, b0, [], hm, Nat.zero_le _, h0, hz⟩, fun i c σ' H' ⟨m, b', vs, hf, hi, e, z⟩ => ⟨fun T ec => ?_, ?_⟩⟩
  · subst ec
    exact ⟨vs, z.im_get⟩
  · have zr := Sub.to (Sub.drop Sub.refl) z
    obtain ⟨us, u1, u2⟩ := t.ls (fr m b' H' zr)
    obtain ⟨ws, w1, w2⟩ := t2.ls (fr m b' H' zr)
    have n1 := u2.len
    have n2 := w2.len
    refine ⟨us, ws, SqL.of u1, SqL.of w1, ?_⟩
    by_cases lt : i < (List.zip xs ys).length
    · refine .inr ⟨lt, ?_⟩
      have lt' := lt
      rw [List.length_zip] at lt'
      obtain ⟨u, hu, pu⟩ := u2.getR (List.getElem?_eq_getElem (by omega : i < xs.length))
      obtain ⟨w, hw, pw⟩ := w2.getR (List.getElem?_eq_getElem (by omega : i < ys.length))
      refine ⟨u, w, hu, hw, fun T nT => ?_⟩
      subst e
      have ed : (List.zip xs ys).drop i = (xs[i], ys[i]) :: (List.zip xs ys).drop (i + 1) := by
        rw [List.drop_eq_getElem_cons lt, List.getElem_zip]
      rw [ed, forL_cons] at hf
      have z1 : Holds (tu T [u, w] :: (tuO c vs :: (Pm m b' ++ R))) (L2.upd H' T (.tup [u, w])) := z.newI (o := .tup [u, w]) nT rfl
      have z2 : Holds (tu T [u, w] :: (tu T [u, w] :: tuO c vs :: (Pm m b' ++ R))) (L2.upd H' T (.tup [u, w])) := z1.addI upd_same rfl
      have z3 : Holds (vl F w ys[i] :: vl E u xs[i] :: tu T [u, w] :: (tu T [u, w] :: tuO c vs :: (Pm m b' ++ R))) (L2.upd H' T (.tup [u, w])) := (z2.vl (E := E) (x := xs[i]) (v := u) (E.st pu (keepI_new nT))).vl (F.st pw (keepI_new nT))
      have r := hs hd (tuO c vs) (xs[i], ys[i]) m b' _ hf T u w _ z3
      refine ⟨_, fun σ3 H3 ⟨m3, b3, f3, e3, h3⟩ => ?_, r⟩
      cases c with
      | none => exact ⟨m3, b3, [u, w], f3, lt, e3, Sub.to (Sub.drop Sub.refl) (Sub.to Sub.swap h3)⟩
      | some T0 => exact ⟨m3, b3, vs, f3, lt, e3, Sub.to (Sub.drop Sub.refl) h3⟩
    · refine .inl ⟨by omega, ?_, ?_⟩
      · rw [List.length_zip] at lt
        omega
      · rw [List.drop_eq_nil_of_le (by omega)] at hf
        subst e
        exact hd m b' hf H' zr
end
end Toy
namespace Toy
open PySem L2 PySem.Spec PyProof.Rows TL
/-! ## texts -/
/-- a text of one sign -/
def sg (c : Nat) : Str := ⟨#[c]⟩
abbrev tOk (x : Str) : Prop := PyData.strOk x = true
theorem tOk_iff {x : Str} : tOk x ↔ ∀ c ∈ x.cps.toList, c < 0x110000 := by
  show x.cps.all (fun c => decide (c < 0x110000)) = true ↔ _
  rw [← Array.all_toList, List.all_eq_true]
  simp
theorem tOk_add {x y : Str} (hx : tOk x) (hy : tOk y) : tOk (x ++ y) := tOk_iff.mpr fun c hc => by
  have e : (x ++ y).cps.toList = x.cps.toList ++ y.cps.toList := tl_append x y
  rw [e] at hc
  exact (List.mem_append.mp hc).elim (tOk_iff.mp hx c) (tOk_iff.mp hy c)
theorem tOk_cut {x : Str} {lo hi : Option Int} (hx : tOk x) : tOk (cutS x lo hi) := tOk_iff.mpr fun c hc => by
  have hc : c ∈ ((x.cps.toList.drop (HT.sIx x.length 0 lo)).take (HT.sIx x.length x.length hi - HT.sIx x.length 0 lo)) := by simpa [cutS] using hc
  exact tOk_iff.mp hx c (List.mem_of_mem_drop (List.mem_of_mem_take hc))
theorem tOk_sg {x : Str} {c : Nat} (hx : tOk x) (h : c ∈ x.cps.toList) : tOk (sg c) := tOk_iff.mpr fun d hd => by
  have e : d = c := by simpa [sg] using hd
  rw [e]
  exact tOk_iff.mp hx c h
theorem mem_spl (S : List Nat) : ∀ (l : List Nat) (k : Nat) (acc : List Nat), ∀ p ∈ spl S k acc l, ∀ c ∈ p, c ∈ acc ∨ c ∈ l
  | [], k, acc => fun p hp c hc => by
    rw [spl_nil, List.mem_singleton] at hp
    subst hp
    exact .inl hc
  | d :: l, 0, acc => fun p hp c hc => by
    by_cases h : pre S (d :: l) = true
    · rw [spl_hit h, List.mem_cons] at hp
      rcases hp with e | hp
      · subst e; exact .inl hc
      · rcases mem_spl S l _ [] p hp c hc with z | z
        · cases z
        · exact .inr (List.mem_cons_of_mem _ z)
    · rw [spl_miss (by simpa using h)] at hp
      rcases mem_spl S l 0 _ p hp c hc with z | z
      · rcases List.mem_append.mp z with z | z
        · exact .inl z
        · rw [List.mem_singleton] at z
          subst z
          exact .inr (List.mem_cons_self ..)
      · exact .inr (List.mem_cons_of_mem _ z)
  | d :: l, k + 1, acc => fun p hp c hc => by
    rw [spl_pass S (k + 1) acc (d :: l), List.drop_succ_cons, ← spl_pass S k acc l] at hp
    rcases mem_spl S l k acc p hp c hc with z | z
    · exact .inl z
    · exact .inr (List.mem_cons_of_mem _ z)
theorem tOk_split {x y : Str} (hy : tl y ≠ []) (hk : ¬ Builtin.Str.strKind x < Builtin.Str.strKind y) (hx : tOk x) : ∀ p ∈ Txt.split x y, tOk p := fun p hp => tOk_iff.mpr fun c hc => by
  have h1 : tl p ∈ spl (tl y) 0 [] (tl x) := by
    rw [← split_spl x y hy hk]
    exact List.mem_map.mpr ⟨p, hp, rfl⟩
  rcases mem_spl (tl y) (tl x) 0 [] (tl p) h1 c hc with z | z
  · cases z
  · exact tOk_iff.mp hx c z
def kCh {K : PySem.W.Frag} : El K Nat := ⟨fun _ v c => v = .str ⟨#[c]⟩, fun h _ => h, fun c => .str ⟨#[c]⟩, fun h => by subst h; exact .str _⟩
section
variable {X : Cx}
def rAddS : R2 := fun x y H Q => ∃ i j, x = .str i ∧ y = .str j ∧ i.length + j.length ≤ sizeLine ∧ Q (.str (i ++ j)) H
theorem op_addS : OpR X (binaryOp .Add) rAddS := op_add_str
def rInSg : R2 := fun x y H Q => ∃ (c : Nat) (z : Str), x = .str ⟨#[c]⟩ ∧ y = .str z ∧ Q (.bl (decide (c ∈ z.cps.toList))) H
def rNiSg : R2 := fun x y H Q => ∃ (c : Nat) (z : Str), x = .str ⟨#[c]⟩ ∧ y = .str z ∧ Q (.bl (!decide (c ∈ z.cps.toList))) H
theorem op_inSg : OpR X (compareOp .In) rInSg := op_in_sign
theorem op_niSg : OpR X (compareOp .NotIn) rNiSg := op_notIn_sign
def rIntS : List V → Hp → VK → Prop := fun xs H Q => ∃ a n, xs = [.str a] ∧ PySem.intText? a = some n ∧ a.length ≤ 640 ∧ Q (.int n) H
theorem call_intS : CallR X (.type "int") rIntS := call_int_str
def rStrI : List V → Hp → VK → Prop := fun xs H Q => ∃ i : Int, xs = [.int i] ∧ i.natAbs.log2 < 1920 ∧ Q (.str (toString i)) H
theorem call_strI : CallR X (.type "str") rStrI := call_str_int
def rSplit : V → List V → Hp → VK → Prop := fun x xs H Q => ∃ a b, x = .str a ∧ xs = [.str b] ∧ (b.length == 0) = false ∧ a.length + 2 ≤ sizeLine ∧ rNewStrs (Txt.split a b) H Q
def rJoin (K : PySem.W.Frag) : V → List V → Hp → VK → Prop := fun x xs H Q => ∃ a p, ∃ ys : List Str, x = .str a ∧ xs = [.ref p] ∧ (SqL K H p (ys.map V.str) ∨ SqT K H p (ys.map V.str)) ∧ (ys.map (·.length)).sum + ys.length * a.length ≤ 16777216 ∧ Q (.str (Txt.join a ys)) H
variable {o e : Expr} {to te : TE} {apos pos : Pos}
theorem pe_splitT (ho : PE X o to) (he : PE X e te) (hs : starEach [e] X.env = [(false, eval e X.env)] := by rfl) (hbase : attributeBase o "split" X.env (eval o X.env) = eval o X.env := by rfl) (hline : (apos.endLine == pos.line) = true := by rfl) :
    PE X (.Call (.Attribute o "split" apos) [e] [] pos) (tM1 rSplit to te) := pe_split ho he hs hbase hline
theorem pe_joinT {K : PySem.W.Frag} (ho : PE X o to) (he : PE X e te) (hK : X.K = K := by rfl) (hs : starEach [e] X.env = [(false, eval e X.env)] := by rfl) (hbase : attributeBase o "join" X.env (eval o X.env) = eval o X.env := by rfl) (hline : (apos.endLine == pos.line) = true := by rfl) :
    PE X (.Call (.Attribute o "join" apos) [e] [] pos) (tM1 (rJoin K) to te) := by
  subst hK
  exact pe_join ho he hs hbase hline
def tJs2 (a : Str) (te : TE) : TE := fun σ H Q => tJs [tC (.str a), tFmt te] Str.empty σ H fun out H1 => Q (.str out) H1
theorem pe_js2 {a : Str} {e1 e2 : Expr} (h1 : PE X e1 (tC (.str a))) (h2 : PE X e2 (tFmt te)) : PE X (.JoinedStr [e1, e2] pos) (tJs2 a te) := pe_joined (.cons h1 (.cons h2 .nil))
end
section
variable {K : PySem.W.Frag} {α β : Type} {L R : List HA} {Q : VK} {σ : L2.St} {H : Hp} {to te ta : TE} {v : V} {p : Addr} {φ : Hp → Prop}
/-- a text that is put away: that it can be laid is told -/
theorem c_sok {x : Str} {k : Prop} (hm : grd (tOk x) k) (q : tOk x → k → Ent L φ) : Ent L φ := q hm.1 hm.2
theorem e_m1 {r : V → List V → Hp → VK → Prop} (q : Ent L fun H => to σ H fun x H1 => (∃ a, x = .str a) ∧ te σ H1 fun y H2 => r x [y] H2 Q) : Ent L fun H => tM1 r to te σ H Q := q
theorem e_m1a {r : V → List V → Hp → VK → Prop} {a : Str} (q : Ent L fun H => te σ H fun y H2 => r (.str a) [y] H2 Q) : Ent L fun H => (∃ b, V.str a = .str b) ∧ te σ H fun y H2 => r (.str a) [y] H2 Q := fun H h => ⟨⟨a, rfl⟩, q H h⟩
theorem c_split {a b : Str} {k : Prop} (hm : grd (a.length ≤ 100000 ∧ tOk a) k) (hb : (b.cps.size == 0) = false) (hk : b.cps.all (· < 256) = true) (q : k → ∀ p, Ent (ls (kSt (K := K)) p (Txt.split a b) :: L) (Q (.ref p))) : Ent L fun H => rSplit (.str a) [.str b] H Q := fun H h => by
  obtain ⟨⟨h1, h2⟩, hm⟩ := hm
  have hy : tl b ≠ [] := fun z => by
    have : b.cps.size = 0 := by rw [← Array.length_toList]; exact (congrArg List.length z)
    rw [this] at hb; cases hb
  refine ⟨a, b, rfl, rfl, hb, by rw [sizeLine_eq]; omega, fun p np => q hm p _ ?_⟩
  have all : ∀ ys : List Str, (∀ y ∈ ys, tOk y) → All2 ((kSt (K := K)).P (L2.upd H p (.lst ((Txt.split a b).map V.str)))) (ys.map V.str) ys := fun ys => by
    intro hy
    induction ys with
    | nil => exact .nil
    | cons y ys ih => exact .cons ⟨rfl, hy y (List.mem_cons_self ..)⟩ (ih fun z hz => hy z (List.mem_cons_of_mem _ hz))
  exact h.ls_new np (all _ (tOk_split hy (kind_ok hk) h2))
theorem c_join {a : Str} {ys : List Str} {k : Prop} (hm : grd ((ys.map (·.length)).sum + ys.length ≤ 1000000) k) (ha : a.cps.size ≤ 1) (t : Take (ls (kSt (K := K)) p ys) L R) (q : k → Ent L (Q (.str (Txt.join a ys)))) : Ent L fun H => rJoin K (.str a) [.ref p] H Q := fun H h => by
  obtain ⟨vs, h1, h2⟩ := t.ls h
  obtain rfl := strs_of h2
  refine ⟨a, p, ys, rfl, rfl, .inl (SqL.of h1), ?_, q hm.2 H h⟩
  have h3 : ys.length * a.length ≤ ys.length * 1 := Nat.mul_le_mul_left _ ha
  have := hm.1
  omega
theorem c_ixS {z : Str} {i : Int} {k : Nat → Prop} (hm : grd (z.length ≤ 100000) (obx (atI z.cps.toList i) k)) (q : ∀ c, k c → Ent L (Q (.str (sg c)))) : Ent L fun H => rIxS (.str z) (.int i) H Q := fun H h => by
  obtain ⟨h1, c, h2, hk⟩ := hm
  exact ⟨z, i, c, rfl, rfl, by rw [sizeLine_eq]; omega, h2, q c hk H h⟩
theorem c_slS {z : Str} {lo hi : Option Int} {k : Prop} (hm : grd (z.length ≤ 100000) k) (q : k → Ent L (Q (.str (cutS z lo hi)))) : Ent L fun H => rSlS (.str z) lo hi H Q := fun H h => ⟨z, rfl, by rw [sizeLine_eq]; have := hm.1; omega, q hm.2 H h⟩
theorem c_addS {x y : Str} {k : Prop} (hm : grd (x.length + y.length ≤ 1000000) k) (q : k → Ent L (Q (.str (x ++ y)))) : Ent L fun H => rAddS (.str x) (.str y) H Q := fun H h => ⟨x, y, rfl, rfl, by rw [sizeLine_eq]; have := hm.1; omega, q hm.2 H h⟩
theorem c_inSg {c : Nat} {z : Str} (q : Ent L (Q (.bl (decide (c ∈ z.cps.toList))))) : Ent L fun H => rInSg (.str (sg c)) (.str z) H Q := fun H h => ⟨c, z, rfl, rfl, q H h⟩
theorem c_niSg {c : Nat} {z : Str} (q : Ent L (Q (.bl (!decide (c ∈ z.cps.toList))))) : Ent L fun H => rNiSg (.str (sg c)) (.str z) H Q := fun H h => ⟨c, z, rfl, rfl, q H h⟩
theorem c_intS {a : Str} {k : Int → Prop} (hm : grd (a.length ≤ 640) (obx (PySem.intText? a) k)) (q : ∀ n, k n → Ent L (Q (.int n))) : Ent L fun H => rIntS [.str a] H Q := fun H h => by
  obtain ⟨h1, n, h2, hk⟩ := hm
  exact ⟨a, n, rfl, h2, h1, q n hk H h⟩
theorem log_small {i : Int} (h : i.natAbs < 10 ^ 15) : i.natAbs.log2 < 1920 := by
  by_cases z : i.natAbs = 0
  · rw [z]; decide
  · exact (Nat.log2_lt z).mpr (Nat.lt_of_lt_of_le h (Nat.le_trans (by decide : 10 ^ 15 ≤ 2 ^ 64) (Nat.pow_le_pow_right (by decide) (by decide))))
theorem c_strI {i : Int} {k : Prop} (hm : grd (i.natAbs < 10 ^ 15) k) (q : k → Ent L (Q (.str (toString i)))) : Ent L fun H => rStrI [.int i] H Q := fun H h => ⟨i, rfl, log_small hm.1, q hm.2 H h⟩
def kFmt (Q : VK) (x : V) (H1 : Hp) : Prop := (∃ y : Str, x = .str y ∧ y.length ≤ sizeLine ∧ Q (.str y) H1) ∨ ∃ i : Int, x = .int i ∧ i.natAbs.log2 < 1920 ∧ Q (.str (toString i)) H1
theorem e_fmt0 (q : Ent L fun H => te σ H fun x H1 => kFmt Q x H1) : Ent L fun H => tFmt te σ H Q := q
theorem c_fmtI {i : Int} {k : Prop} (hm : grd (i.natAbs < 10 ^ 15) k) (q : k → Ent L (Q (.str (toString i)))) : Ent L fun H => kFmt Q (.int i) H := fun H h => .inr ⟨i, rfl, log_small hm.1, q hm.2 H h⟩
def kJs (a : Str) (Q : VK) (x : V) (H1 : Hp) : Prop := kFmt (fun x H1 => ∃ y : Str, x = .str y ∧ ((Str.empty ++ a) ++ y).length ≤ sizeLine ∧ Q (.str ((Str.empty ++ a) ++ y)) H1) x H1
theorem e_js20 {a : Str} (hl : a.cps.size ≤ 1000) (q : Ent L fun H => te σ H fun x H1 => kJs a Q x H1) : Ent L fun H => tJs2 a te σ H Q := fun H h => by
  refine ⟨a, rfl, ?_, q H h⟩
  have e : (Str.empty ++ a).length = a.cps.size := by
    rw [len_tl, tl_append]
    show (tl a).length = _
    simp [tl]
  rw [e, sizeLine_eq]
  omega
theorem emp_add (a : Str) : Str.empty ++ a = a := ext_tl (by rw [tl_append]; rfl)
theorem toStr_len {i : Int} (h : i.natAbs < 10 ^ 15) : (Str.ofString (toString i)).length ≤ 20 := by
  rw [PySem.ofString_length]
  exact Nat.le_trans (PySem.int_text_length_le10 (k := 15) (by decide) h) (by decide)
theorem c_jsI {a : Str} {i : Int} {k : Prop} (hm : grd (i.natAbs < 10 ^ 15) k) (hl : a.cps.size ≤ 1000) (q : k → Ent L (Q (.str (a ++ (toString i : String))))) : Ent L fun H => kJs a Q (.int i) H := fun H h => by
  refine .inr ⟨i, rfl, log_small hm.1, _, rfl, ?_, ?_⟩
  · rw [emp_add, len_tl, tl_append, List.length_append]
    have := toStr_len hm.1
    rw [len_tl] at this
    have e : (tl a).length = a.cps.size := by simp [tl]
    rw [sizeLine_eq]
    omega
  · rw [emp_add]
    exact q hm.2 H h
/-- a written choice of texts -/
theorem c_cutS {k : Str → Prop} {f : (Str → Prop) → Prop} (hm : jn k f) (q : ∀ jp : Str → Prop, f jp → Ent L fun H => te σ H fun v H' => ∃ x, v = .str x ∧ jp x ∧ Holds L H') (hd : ∀ x, k x → Ent L (Q (.str x))) : Ent L fun H => tCutE te σ H Q := fun H h =>
  ⟨_, q k hm H h, fun v H' ⟨x, e, hk, z⟩ => by subst e; exact hd x hk H' z⟩
theorem c_endS {jp : Str → Prop} {x : Str} (hm : jp x) (s : Sub L R) : Ent L fun H => ∃ y, V.str x = .str y ∧ jp y ∧ Holds R H := fun H h => ⟨x, rfl, hm, s.to h⟩
def rLenS : List V → Hp → VK → Prop := fun xs H Q => ∃ z : Str, xs = [.str z] ∧ z.length ≤ sizeLine ∧ Q (.int (z.length : Nat)) H
theorem call_lenS {X : Cx} : CallR X (.builtin "len") rLenS := call_len_str
theorem c_lenS {z : Str} {k : Prop} (hm : grd (z.length ≤ 100000) k) (q : k → Ent L (Q (.int (z.length : Nat)))) : Ent L fun H => rLenS [.str z] H Q := fun H h => ⟨z, rfl, by rw [sizeLine_eq]; have := hm.1; omega, q hm.2 H h⟩
theorem c_getU0T {β : Type} {F : El K β} {o : Str ⊕ β} {k : Str → Prop} (hm : obu0 o k) (t : Take (vl (kU (kSt (K := K)) F) v o) L R) (q : ∀ w, k w → v = .str w → tOk w → Ent L φ) : Ent L φ := fun H h => by
  obtain ⟨w, e, hk⟩ : ∃ w, o = .inl w ∧ k w := by
    cases o with
    | inl x => rw [obu0_l] at hm; exact ⟨x, rfl, hm⟩
    | inr w => simp [obu0] at hm
  subst e
  have z := t.vl h
  exact q w hk z.1 z.2 H h
/-- a written choice of lists -/
theorem c_cutL {k : List α → Prop} {f : (List α → Prop) → Prop} (E : El K α) (hm : jn k f) (q : ∀ jp : List α → Prop, f jp → Ent L fun H => te σ H fun v H' => ∃ p x, v = .ref p ∧ jp x ∧ Holds (ls E p x :: L) H') (hd : ∀ x, k x → ∀ p, Ent (ls E p x :: L) (Q (.ref p))) : Ent L fun H => tCutE te σ H Q := fun H h =>
  ⟨_, q k hm H h, fun v H' ⟨p, x, e, hk, z⟩ => by subst e; exact hd x hk p H' z⟩
theorem c_endL {E : El K α} {jp : List α → Prop} {x : List α} (hm : jp x) (s : Sub L (ls E p x :: R)) : Ent L fun H => ∃ p' x, V.ref p = .ref p' ∧ jp x ∧ Holds (ls E p' x :: R) H := fun H h => ⟨p, x, rfl, hm, s.to h⟩
/-- a comprehension over a text's signs -/
def kLcSt (g : TG) (tt : TT) (te : TE) (vs : List Nat) (σ : L2.St) (Q : VK) (x : V) (H : Hp) : Prop := tLc (iStr (tC x)) g tt te vs σ H Q
theorem e_lcSt0 {g : TG} {tt : TT} {vs : List Nat} (q : Ent L fun H => ta σ H fun x H1 => kLcSt g tt te vs σ Q x H1) : Ent L fun H => tLc (iStr ta) g tt te vs σ H Q := q
theorem walk_str (x : Str) : Walk (Its x) x.cps.toList.length (fun _ => True) (fun i H v H' => H' = H ∧ ∃ c, x.cps.toList[i]? = some c ∧ (kCh (K := K)).P H v c) :=
  ⟨fun i H hi _ => (by show i < x.cps.size; simpa using hi), fun H _ => by show x.cps.size ≤ _; simp, fun i H v H' hi _ ⟨e, c, hc, ev⟩ => ⟨e, c, by simpa using hc, ev⟩⟩
theorem c_lcSt {x : Str} {bd : Nat → (Option β → Prop) → Prop} {k : List β → Prop} {g : TG} {tt : TT} {vs : List Nat} (E' : El K β) (hm : grd (x.cps.toList.length ≤ 100000) (lcL x.cps.toList [] bd k))
    (step : ∀ c (nxt : Option β → Prop), bd c nxt → ∀ D ys (r : VK) (s : Hp → Prop), (∀ v' y, nxt (some y) → Ent (vl E' v' y :: ls E' D ys :: L) (r v')) → (nxt none → Ent (ls E' D ys :: L) s) → Ent (ls E' D ys :: L) fun H => g (.str (sg c)) (wipe σ vs) H fun σ2 H2 => wipe σ2 vs = wipe σ vs ∧ tt σ2 H2 fun b H3 => if b = true then te σ2 H3 r else s H3)
    (q : ∀ ys, k ys → ∀ D, Ent (ls E' D ys :: L) (Q (.ref D))) : Ent L fun H => kLcSt g tt te vs σ Q (.str x) H := fun H h => by
  refine ⟨x, rfl, lcSq_core E' (walk_str (K := K) x) (fun _ _ => trivial) hm (fun c nxt hb v D ys r s r1 r2 H2 h2 => ?_) q h⟩
  have ev : v = .str ⟨#[c]⟩ := Take.vl take_here h2
  subst ev
  exact step c nxt hb D ys r s r1 r2 H2 (Sub.to (Sub.drop Sub.refl) h2)
instance {β : Type} {B : El K β} [N : ElN B] : ElN (kU (kSt (K := K)) B) := ⟨fun x => by
  cases x with
  | inl y => exact ElN.non (E := kSt (K := K)) y
  | inr y => exact N.non y, fun H v x h z => by
  cases x with
  | inl y => exact ElN.nv (E := kSt (K := K)) H v y h z
  | inr y => exact N.nv H v y h z⟩
/-! a text, a number, or None -/
def oStr : Option (Str ⊕ Int) → Bool
  | some (.inl _) => true
  | _ => false
def oInt : Option (Str ⊕ Int) → Bool
  | some (.inr _) => true
  | _ => false
theorem c_isiO {o : Option (Str ⊕ Int)} {T : String} {b : Bool} (t : Take (vl (kO (kU (kSt (K := K)) kI)) v o) L R) (hT : (T = "str" ∧ b = oStr o) ∨ (T = "int" ∧ b = oInt o) ∨ (T = "bool" ∧ b = false)) (q : Ent L (Q (.bl b))) : Ent L fun H => rIsi K [v, .ty T] H Q := fun H h => by
  have z := t.vl h
  cases o with
  | none =>
    obtain rfl : v = .non := z
    rcases hT with ⟨rfl, rfl⟩ | ⟨rfl, rfl⟩ | ⟨rfl, rfl⟩
    · exact e_isi (r := false) (fun _ _ => TyX.base .non) (.ty _) (kit_ty (by decide +kernel)) q H h
    · exact e_isi (r := false) (fun _ _ => TyX.base .non) (.ty _) (kit_ty (by decide +kernel)) q H h
    · exact e_isi (r := false) (fun _ _ => TyX.base .non) (.ty _) (kit_ty (by decide +kernel)) q H h
  | some y =>
    cases y with
    | inl x =>
      obtain ⟨rfl, _⟩ := z
      rcases hT with ⟨rfl, rfl⟩ | ⟨rfl, rfl⟩ | ⟨rfl, rfl⟩
      · exact e_isi (r := true) (ty_S x) (.ty _) (kit_ty (by decide +kernel)) q H h
      · exact e_isi (r := false) (ty_S x) (.ty _) (kit_ty (by decide +kernel)) q H h
      · exact e_isi (r := false) (ty_S x) (.ty _) (kit_ty (by decide +kernel)) q H h
    | inr x =>
      obtain rfl : v = .int x := z
      rcases hT with ⟨rfl, rfl⟩ | ⟨rfl, rfl⟩ | ⟨rfl, rfl⟩
      · exact e_isi (r := false) (ty_I x) (.ty _) (kit_ty (by decide +kernel)) q H h
      · exact e_isi (r := true) (ty_I x) (.ty _) (kit_ty (by decide +kernel)) q H h
      · exact e_isi (r := false) (ty_I x) (.ty _) (kit_ty (by decide +kernel)) q H h
end
end Toy

open PySem L2 Toy in
local macro_rules | `(tactic| walk_at "whl") => `(tactic| first | (with_reducible assumption) | exact upd_same | (refine' (upd_ne ?h1).trans ?h2; (case h1 => walk_at "ne"); (case h2 => walk_at "whl")) | (refine' (show Same _ _ by (with_reducible assumption)) _ _ ?h1; (case h1 => walk_at "whl")) | (refine' (show Chg _ _ _ by (with_reducible assumption)) _ _ ?h1 ?h2; (case h1 => walk_at "whl"); (case h2 => walk_at "ne")))
open PySem L2 Toy in
local macro_rules | `(tactic| walk_at "ne") => `(tactic| first | (with_reducible assumption) | (apply Ne.symm; (with_reducible assumption)) | (refine' ne_of_none ?h1 ?h2; (case h2 => (with_reducible assumption)); (case h1 => walk_at "whl")) | (apply Ne.symm; refine' ne_of_none ?h1 ?h2; (case h2 => (with_reducible assumption)); (case h1 => walk_at "whl")) | (refine' ne_of ?h1 ?h2 ?h3; (case h1 => walk_at "whl"); (case h2 => walk_at "whl"); (case h3 => intro z; cases z)))
open PySem L2 Toy in
local macro_rules | `(tactic| walk_at "wsq") => `(tactic| first | (with_reducible assumption) | (refine' SqL.of ?h1; (case h1 => walk_at "whl")) | (refine' SqT.of ?h1; (case h1 => walk_at "whl")) | exact Same.seq (by (with_reducible assumption)) (by (with_reducible assumption)) | exact same_seqT (by (with_reducible assumption)) (by (with_reducible assumption)))
open PySem L2 Toy in
local macro_rules | `(tactic| walk_at "si") => `(tactic| first | omega | (with_reducible assumption) | decide | (refine ⟨?_, ?_⟩ <;> omega) | exact Or.inl ⟨by omega, by omega⟩ | exact Or.inr ⟨by omega, by omega⟩ | exact ⟨by omega, by omega, by omega⟩ | exact ⟨by decide, by decide, by decide⟩)
open PySem L2 Toy in
local macro_rules | `(tactic| walk_at "wst") => `(tactic| first
  | with_reducible first
    | refine w_seq ?_ | refine w_c ?_ | refine w_op ?_ | refine w_un ?_ | refine w_I0 ?_ | refine w_U ?_ | refine w_cb ?_ | refine w_cons ?_ | refine w_nil ?_ | refine w_call ?_ | refine w_tup ?_ | refine w_lst ?_
    | refine w_asg ?_ | refine w_gname ?_ | refine w_ret ?_ | refine w_drop ?_ | refine w_ifs ?_ | refine w_if0 ?_ | refine w_test ?_ | refine w_B ?_ | refine w_not ?_ | refine w_andV ?_ | refine w_orV ?_ | refine w_notV ?_ | refine w_bl ?_
    | refine w_next ?_ | refine w_brk ?_ | refine w_cont ?_ | refine w_retN ?_ | refine w_fld0 ?_ | refine w_sfld0 ?_ | refine w_meth0 ?_ | refine w_prop0 ?_ | refine w_make ?_ | refine w_par ?_ | refine w_vw ?_ | refine w_gsub ?_ | refine w_gcons ?_ | refine w_gnil ?_
    | refine w_iI ?_ | refine w_iIJ ?_ | refine w_int1 ?_ | refine iteT ?_ | refine iteF ?_ | refine w_methSx0 ?_ | refine w_methN0 ?_ | refine w_callN ?_ | refine w_callS ?_ | refine w_yes ?_ | refine w_mko0 ?_ | refine w_makeK ?_ | refine w_chain ?_ | refine w_sl ?_ | refine w_nopart ?_ | refine w_part ?_ | refine w_ei ?_ | refine w_rev0 ?_ | refine w_forZ ?_ | refine w_forE ?_ | refine w_lcZ ?_ | refine w_lcE ?_ | refine w_bm ?_ | refine w_bm0 ?_ | refine w_forR1 ?_ | refine w_forL ?_ | refine w_forT ?_ | refine iteNT ?_ | refine iteNF ?_ | refine w_lstRg ?_ | refine w_tupRg ?_ | refine w_rg1 ?_ | refine w_rg2 ?_ | refine w_eij ?_
  | ((with_reducible refine' w_var ?h ?_); (case h => rfl))
  | ((with_reducible refine' w_I ?h ?_); (case h => walk_at "si"))
  | ((with_reducible refine' w_ixL ?h ?g ?_); (case h => walk_at "wsq"); (case g => first | rfl | (with_reducible assumption)))
  | ((with_reducible refine' w_ixT ?h ?g ?_); (case h => walk_at "wsq"); (case g => first | rfl | (with_reducible assumption)))
  | ((with_reducible refine' w_setL ?h ?g ?_); (case h => walk_at "whl"); (case g => first | rfl | (with_reducible assumption)))
  | ((with_reducible refine' w_gtup ?h ?g ?_); (case h => walk_at "wsq"); (case g => rfl))
  | ((with_reducible refine' w_lenL ?h ?_); (case h => walk_at "wsq"))
  | ((with_reducible refine' w_lenT ?h ?_); (case h => walk_at "wsq"))
  | ((with_reducible refine' w_eq ?h ?_); (case h => rfl))
  | ((with_reducible refine' w_ne ?h ?_); (case h => rfl))
  | ((with_reducible refine' w_ea ?h ?_); (case h => rfl))
  | ((with_reducible refine' w_ln ?h ?_); (case h => rfl))
  | ((with_reducible refine' w_fld ?h ?c ?n ?l ?_); (case h => walk_at "whl"); (case c => walk_at "cls"); (case n => walk_at "nat"); (case l => rfl))
  | ((with_reducible refine' w_sfld ?h ?c ?n ?l ?e ?_); (case h => walk_at "whl"); (case c => walk_at "cls"); (case n => walk_at "nat"); (case l => exact Nat.le_of_ble_eq_true rfl); (case e => rfl))
  | ((with_reducible refine' w_meth ?h ?l ?_); (case h => walk_at "whl"); (case l => rfl))
  | ((with_reducible refine' w_prop ?h ?_); (case h => walk_at "whl"))
  | ((with_reducible refine' w_tyL ?h ?_); (case h => walk_at "wsq"))
  | ((with_reducible refine' w_app ?h ?z ?_); (case h => walk_at "whl"); (case z => first | omega | (simp; omega) | simp))
  | ((with_reducible refine' w_cat ?h ?g ?z ?_); (case h => walk_at "whl"); (case g => walk_at "whl"); (case z => first | omega | (simp; omega) | simp))
  | ((with_reducible refine' w_zip ?h ?g ?_); (case h => walk_at "wsq"); (case g => walk_at "wsq"))
  | ((with_reducible refine' w_enum ?h ?_); (case h => walk_at "wsq"))
  | ((with_reducible refine' w_slL ?h ?_); (case h => walk_at "wsq"))
  | ((with_reducible refine' w_rev ?h ?_); (case h => walk_at "wsq"))
  | ((with_reducible refine' w_rep ?h ?a ?b ?z ?_); (case h => walk_at "whl"); (case a => omega); (case b => omega); (case z => first | omega | exact Nat.le_of_ble_eq_true rfl | (simp; omega)))
  | ((with_reducible refine' w_rgok ?h ?_); (case h => omega))
  | ((with_reducible refine' w_laid ?h ?_); (case h => simp)))
open PySem L2 Toy in
local macro_rules | `(tactic| walk_at "frOld") => `(tactic| with_reducible first | exact take_here | exact (take_there take_here) | exact (take_there (take_there take_here)) | exact (take_there (take_there (take_there take_here))) | exact (take_there (take_there (take_there (take_there take_here)))) | exact (take_there (take_there (take_there (take_there (take_there take_here))))) | exact (take_there (take_there (take_there (take_there (take_there (take_there take_here)))))) | exact (take_there (take_there (take_there (take_there (take_there (take_there (take_there take_here))))))) | exact (take_there (take_there (take_there (take_there (take_there (take_there (take_there (take_there take_here)))))))) | exact (take_there (take_there (take_there (take_there (take_there (take_there (take_there (take_there (take_there take_here))))))))) | exact (take_there (take_there (take_there (take_there (take_there (take_there (take_there (take_there (take_there (take_there take_here)))))))))) | exact (take_there (take_there (take_there (take_there (take_there (take_there (take_there (take_there (take_there (take_there (take_there take_here))))))))))) | exact (take_there (take_there (take_there (take_there (take_there (take_there (take_there (take_there (take_there (take_there (take_there (take_there take_here)))))))))))) | exact (take_there (take_there (take_there (take_there (take_there (take_there (take_there (take_there (take_there (take_there (take_there (take_there (take_there take_here))))))))))))) | exact (take_there (take_there (take_there (take_there (take_there (take_there (take_there (take_there (take_there (take_there (take_there (take_there (take_there (take_there take_here)))))))))))))) | exact (take_there (take_there (take_there (take_there (take_there (take_there (take_there (take_there (take_there (take_there (take_there (take_there (take_there (take_there (take_there take_here))))))))))))))) | exact (take_there (take_there (take_there (take_there (take_there (take_there (take_there (take_there (take_there (take_there (take_there (take_there (take_there (take_there (take_there (take_there take_here)))))))))))))))) | exact (take_there (take_there (take_there (take_there (take_there (take_there (take_there (take_there (take_there (take_there (take_there (take_there (take_there (take_there (take_there (take_there (take_there take_here))))))))))))))))) | exact (take_there (take_there (take_there (take_there (take_there (take_there (take_there (take_there (take_there (take_there (take_there (take_there (take_there (take_there (take_there (take_there (take_there (take_there take_here)))))))))))))))))) | exact (take_there (take_there (take_there (take_there (take_there (take_there (take_there (take_there (take_there (take_there (take_there (take_there (take_there (take_there (take_there (take_there (take_there (take_there (take_there take_here))))))))))))))))))) | exact (take_there (take_there (take_there (take_there (take_there (take_there (take_there (take_there (take_there (take_there (take_there (take_there (take_there (take_there (take_there (take_there (take_there (take_there (take_there (take_there take_here)))))))))))))))))))) | exact (take_there (take_there (take_there (take_there (take_there (take_there (take_there (take_there (take_there (take_there (take_there (take_there (take_there (take_there (take_there (take_there (take_there (take_there (take_there (take_there (take_there take_here))))))))))))))))))))))
open PySem L2 Toy in
local macro_rules | `(tactic| walk_at "cl") => `(tactic| first | (with_reducible assumption) | rfl | omega | trivial | (refine ⟨?_, ?_⟩ <;> walk_at "cl") | (simp; done) | (simp; omega))
open PySem L2 Toy in
local macro_rules | `(tactic| walk_at "dr") => `(tactic| first | with_reducible exact Sub.refl | ((with_reducible refine' Sub.drop ?s); (case s => walk_at "dr")))
open PySem L2 Toy in
local macro_rules | `(tactic| walk_at "sub10") => `(tactic| with_reducible first
  | exact Sub.refl | exact Sub.nil
  | ((refine' Sub.pu ?h ?_); (case h => with_unfolding_all walk_at "cl"))
  | ((refine Sub.all ?_); simp only [List.cons_append, List.nil_append])
  | (refine Sub.ex _ ?_)
  | ((refine' Sub.take (Take.keep ?t) ?_); (case t => walk_at "fr"))
  | ((refine' Sub.take ?t ?_); (case t => walk_at "fr"))
  | ((refine' Sub.take (take_ls0 ?t) ?_); (case t => walk_at "fr"))
  | ((refine' Sub.take (take_eq ?e ?t) ?_); (case t => walk_at "fr"); (case e => with_unfolding_all rfl))
  | ((refine' Sub.take (take_eqLs ?e ?t) ?_); (case t => walk_at "fr"); (case e => with_unfolding_all rfl))
  | ((refine' Sub.take (take_eqVl ?e ?t) ?_); (case t => walk_at "fr"); (case e => with_unfolding_all rfl))
  | walk_at "dr")
open PySem L2 Toy in
local macro_rules | `(tactic| walk_at "sub") => `(tactic| (repeat (walk_at "sub1")); done)
open PySem L2 Toy in
local macro_rules | `(tactic| walk_at "hl") => `(tactic| first | (with_reducible assumption) | ((with_reducible refine' hasL_pt ?h); (case h => walk_at "fr")) | ((with_reducible refine' hasL_sq ?h); (case h => walk_at "fr")))
open PySem L2 Toy in
local macro_rules | `(tactic| walk_at "ht") => `(tactic| first | (with_reducible assumption) | walk_at "tqs" | ((with_reducible refine' hasT_tu ?h); (case h => walk_at "fr")) | ((with_reducible refine' hasT_tq ?h); (case h => walk_at "fr")))
open PySem L2 Toy in
local macro_rules | `(tactic| walk_at "si") => `(tactic| first | omega | (with_reducible assumption) | decide | (refine ⟨?_, ?_⟩ <;> omega) | exact Or.inl ⟨by omega, by omega⟩ | exact Or.inr ⟨by omega, by omega⟩ | exact ⟨by omega, by omega, by omega⟩ | exact ⟨by decide, by decide, by decide⟩)
open PySem L2 Toy in
local macro_rules | `(tactic| walk_at "sz") => `(tactic| first | omega | exact Nat.le_of_ble_eq_true rfl | (with_reducible assumption) | (simp; done) | (simp; omega))
open PySem L2 Toy in
local macro_rules | `(tactic| walk_at "ix") => `(tactic| first | (with_reducible assumption) | exact atI_of (by omega) (by (with_reducible assumption)) | exact atI_0 | exact atI_m1 | rfl)
open PySem L2 Toy in
local macro_rules | `(tactic| walk_at "jx") => `(tactic| first | (with_reducible assumption) | exact ixN_at (by omega) (by omega) | exact ixN_at (by omega) (by (simp; omega)) | rfl)
open PySem L2 Toy in
local macro_rules | `(tactic| walk_at "vw") => `(tactic| first | rfl | (with_reducible assumption))
open PySem L2 Toy in
local macro_rules | `(tactic| walk_at "el0") => `(tactic| first | exact vl_I | exact vl_v (by walk_at "fr") | exact vl_T (by walk_at "fr") (fun _ h => ⟨_, rfl, h⟩) | exact vl_non)
open PySem L2 Toy in
local macro_rules | `(tactic| walk_at "dt") => `(tactic| first | (with_reducible assumption) | omega | (show _ = _; rfl) | decide +kernel)
open PySem L2 Toy in
local macro_rules | `(tactic| walk_at "df") => `(tactic| first | (with_reducible assumption) | omega | (intro z; cases z; done) | decide +kernel)
open PySem L2 Toy in
local macro_rules | `(tactic| walk_at "hi") => `(tactic| (refine' hasI_pt ?h ?g; (case h => walk_at "fr"); (case g => rfl)))
open PySem L2 Toy in
local macro_rules | `(tactic| walk_at "sS") => `(tactic| (with_reducible first | refine e_seq ?_ | refine e_asg ?_ | refine e_drop ?_ | refine e_ifs ?_ | refine e_ret ?_ | refine e_next ?_ | refine e_sfld0 ?_ | refine e_par ?_ | refine e_par3 ?_ | refine e_forR1 ?_ | refine e_forL ?_ | refine e_forT ?_ | refine e_forZ ?_ | refine e_forE ?_ | refine e_brk ?_ | refine e_cont ?_ | refine e_retN ?_))
open PySem L2 Toy in
local macro_rules | `(tactic| walk_at "sE") => `(tactic| first
  | ((with_reducible refine' e_var ?h ?_); (case h => rfl)) | (with_reducible first | refine e_c ?_ | refine e_op ?_ | refine e_call1 ?_ | refine e_meth1 ?_ | refine e_fld0 ?_ | refine e_cb ?_ | refine e_un ?_ | refine e_tup ?_ | refine e_lst ?_ | refine e_if0 ?_ | refine e_bm ?_ | refine e_bm0 ?_ | refine e_sl ?_ | refine e_chain ?_ | refine e_make ?_ | refine e_lc0 ?_ | refine e_lcE0 ?_ | refine e_prop0 ?_ | refine e_andV ?_ | refine e_orV ?_ | refine e_notV ?_ | refine e_rev0 ?_ | refine e_lstRg ?_ | refine e_tupRg ?_ | refine e_methN ?_ | refine e_methS ?_ | refine e_callN ?_ | refine e_callS ?_ | refine e_makeK ?_))
open PySem L2 Toy in
local macro_rules | `(tactic| walk_at "sT") => `(tactic| (with_reducible first | refine e_test ?_ | refine e_B ?_ | refine e_not ?_ | refine e_and ?_ | refine e_or ?_ | refine e_yes ?_))
open PySem L2 Toy in
local macro_rules | `(tactic| walk_at "sA") => `(tactic| (with_reducible first | refine e_cons ?_ | refine e_nil ?_))
open PySem L2 Toy in
local macro_rules | `(tactic| walk_at "sG") => `(tactic| first
  | (with_reducible refine e_gname ?_) | ((with_reducible refine' e_gtup ?h ?g ?_); (case h => walk_at "ht"); (case g => rfl)) | with_reducible refine e_gsub ?_)
open PySem L2 Toy in
local macro_rules | `(tactic| walk_at "sR") => `(tactic| first
  | (with_reducible first | refine e_I0 ?_ | refine e_eqII ?_ | refine e_neII ?_ | refine e_neB ?_)
  | ((with_reducible refine' e_I ?h ?_); (case h => walk_at "si"))
  | ((with_reducible refine' e_ixM ?h ?g ?_); (case h => walk_at "hl"); (case g => walk_at "ix"))
  | ((with_reducible refine' e_ixL ?h ?g ?_); (case h => walk_at "hl"); (case g => walk_at "ix"))
  | ((with_reducible refine' e_ixLs ?h ?g fun _ => ?_); (case h => walk_at "fr"); (case g => walk_at "ix"))
  | ((with_reducible refine' e_ixT ?h ?g ?_); (case h => walk_at "ht"); (case g => walk_at "ix"))
  | ((with_reducible refine' e_eq ?h ?_); (case h => rfl))
  | ((with_reducible refine' e_ne ?h ?_); (case h => rfl))
  | ((with_reducible refine' e_catM ?h ?g ?z fun _ => ?_); (case h => walk_at "fr"); (case g => walk_at "fr"); (case z => walk_at "sz"))
  | ((with_reducible refine' e_cat ?h ?g ?z fun _ => ?_); (case h => walk_at "fr"); (case g => walk_at "fr"); (case z => walk_at "sz"))
  | ((with_reducible refine' e_catLs ?h ?g ?z fun _ => ?_); (case h => walk_at "fr"); (case g => walk_at "fr"); (case z => walk_at "sz"))
  | ((with_reducible refine' e_rep ?h ?a ?b ?z fun _ => ?_); (case h => walk_at "fr"); (case a => omega); (case b => omega); (case z => walk_at "sz")))
open PySem L2 Toy in
local macro_rules | `(tactic| walk_at "sC") => `(tactic| first
  | ((with_reducible refine' e_lenL ?h ?_); (case h => walk_at "hl"))
  | ((with_reducible refine' e_lenLs ?h ?_); (case h => walk_at "fr"))
  | ((with_reducible refine' e_lenT ?h ?_); (case h => walk_at "ht"))
  | ((with_reducible refine' e_listOf ?h fun _ => ?_); (case h => walk_at "hl"))
  | ((with_reducible refine' e_listLs ?h fun _ => ?_); (case h => walk_at "fr"))
  | ((with_reducible refine' e_listOfT ?h fun _ => ?_); (case h => walk_at "ht"))
  | ((with_reducible refine' e_tupOf ?h fun _ => ?_); (case h => walk_at "hl"))
  | ((with_reducible refine' e_tupLs ?h fun _ => ?_); (case h => walk_at "fr"))
  | ((with_reducible refine' e_tupOfT ?h ?_); (case h => walk_at "ht"))
  | ((with_reducible refine' e_div ?h fun _ => ?_); (case h => exact ⟨by omega, by omega⟩)))
open PySem L2 Toy in
local macro_rules | `(tactic| walk_at "sM") => `(tactic| first
  | ((with_reducible refine' e_appM ?h ?v ?z ?_); (case h => walk_at "fr"); (case v => walk_at "vw"); (case z => walk_at "sz"))
  | ((with_reducible refine' e_app ?h ?z ?_); (case h => walk_at "fr"); (case z => walk_at "sz"))
  | ((with_reducible refine' e_appLs ?h ?y ?z ?_); (case h => walk_at "fr"); (case y => walk_at "el"); (case z => walk_at "sz"))
  | ((with_reducible refine' e_clear ?h ?_); (case h => walk_at "fr"))
  | ((with_reducible refine' e_clearLs ?h ?_); (case h => walk_at "fr"))
  | ((with_reducible refine' e_ext ?h ?g ?z ?_); (case h => walk_at "fr"); (case g => walk_at "fr"); (case z => walk_at "sz")))
open PySem L2 Toy in
local macro_rules | `(tactic| walk_at "sX") => `(tactic| first
  | (with_reducible first | refine e_bl ?_ | refine e_vw ?_ | refine e_uvw ?_ | refine e_iI ?_ | refine e_iIJ ?_ | refine e_ei ?_ | refine e_eij ?_)
  | ((with_reducible refine' e_methI ?h ?_); (case h => walk_at "hi"))
  | ((with_reducible refine' e_propI ?h ?_); (case h => walk_at "hi")))
open PySem L2 Toy in
local macro_rules | `(tactic| walk_at "sI") => `(tactic| first
  | (with_reducible first | refine eT ?_ | refine eF ?_ | refine eNT ?_ | refine eNF ?_)
  | ((with_reducible refine' eDT ?h ?_); (case h => walk_at "dt"))
  | ((with_reducible refine' eDF ?h ?_); (case h => walk_at "df"))
  | ((with_reducible refine' eNDT ?h ?_); (case h => walk_at "dt"))
  | ((with_reducible refine' eNDF ?h ?_); (case h => walk_at "df")))
open PySem L2 Toy in
local macro_rules | `(tactic| walk_at "sN") => `(tactic| first
  | (with_reducible refine e_rfl ?_) | ((with_reducible refine' e_ea ?h ?_); (case h => rfl)) | ((with_reducible refine' e_ln ?h ?_); (case h => rfl)))
open PySem L2 Toy in
local macro_rules | `(tactic| walk_at "sO") => `(tactic| first
  | (with_reducible first | refine e_U ?_ | refine e_gcons ?_ | refine e_gnil ?_ | refine e_int1 ?_ | refine e_intB ?_ | refine e_nopart ?_ | refine e_part ?_ | refine e_rg1 ?_ | refine e_rg2 ?_ | refine Ent.ex fun _ => ?_ | refine e_new fun _ _ => ?_)
  | ((with_reducible refine' e_tyL ?h ?_); (case h => walk_at "hl"))
  | ((with_reducible refine' e_tyLs ?h ?_); (case h => walk_at "fr"))
  | ((with_reducible refine' e_fld ?h ?c ?n ?l ?_); (case h => walk_at "fr"); (case c => walk_at "cls"); (case n => walk_at "nat"); (case l => rfl))
  | ((with_reducible refine' e_sfld ?h ?c ?n ?l ?e ?_); (case h => walk_at "fr"); (case c => walk_at "cls"); (case n => walk_at "nat"); (case l => exact Nat.le_of_ble_eq_true rfl); (case e => rfl))
  | ((with_reducible refine' e_newT ?h fun _ => ?_); (case h => walk_at "sz"))
  | ((with_reducible refine' e_newL ?h fun _ => ?_); (case h => walk_at "sz"))
  | ((with_reducible refine' e_setM ?h ?v ?g ?_); (case h => walk_at "fr"); (case v => walk_at "vw"); (case g => walk_at "jx"))
  | ((with_reducible refine' e_setL ?h ?g ?_); (case h => walk_at "fr"); (case g => walk_at "jx"))
  | ((with_reducible refine' e_slM ?h fun _ => ?_); (case h => walk_at "hl"))
  | ((with_reducible refine' e_slL ?h fun _ => ?_); (case h => walk_at "hl"))
  | ((with_reducible refine' e_slLs ?h fun _ => ?_); (case h => walk_at "fr"))
  | ((with_reducible refine' e_revM ?h fun _ => ?_); (case h => walk_at "hl"))
  | ((with_reducible refine' e_rev ?h fun _ => ?_); (case h => walk_at "hl"))
  | ((with_reducible refine' e_revLs ?h fun _ => ?_); (case h => walk_at "fr"))
  | ((with_reducible refine' e_rgL ?h fun _ => ?_); (case h => omega))
  | ((with_reducible refine' e_rgT ?h fun _ => ?_); (case h => omega))
  | ((with_reducible refine' e_newK ?h ?g fun _ _ => ?_); (case h => rfl); (case g => rfl)))
open PySem L2 Toy in
local macro_rules | `(tactic| walk_at "st") => `(tactic| first
  | ((with_reducible refine gS ?_); walk_at "sS")
  | ((with_reducible refine gE ?_); walk_at "sE")
  | ((with_reducible refine gT ?_); walk_at "sT")
  | ((with_reducible refine gA ?_); walk_at "sA")
  | ((with_reducible refine gX ?_); walk_at "sX")
  | ((with_reducible refine gI ?_); walk_at "sI")
  | ((with_reducible refine gR ?_); walk_at "sR")
  | ((with_reducible refine gC ?_); walk_at "sC")
  | ((with_reducible refine gM ?_); walk_at "sM")
  | ((with_reducible refine gG ?_); walk_at "sG")
  | ((with_reducible refine gN ?_); walk_at "sN")
  | walk_at "sO")
open PySem L2 Toy in
local macro_rules | `(tactic| walk_at "fr0") => `(tactic| first | (with_reducible exact take_here) | ((with_reducible apply take_there); walk_at "fr0"))
open PySem L2 Toy in
local macro_rules | `(tactic| walk_at "el") => `(tactic| first
  | (with_reducible first | exact is_I | exact is_B | exact is_N | exact is_no)
  | ((with_reducible refine' is_v ?h); (case h => walk_at "fr0"))
  | ((with_reducible refine' is_so ?h); (case h => walk_at "el"))
  | ((with_reducible refine' is_tup ?t ?h); (case t => walk_at "fr0"); (case h => walk_at "els"))
  | ((with_reducible refine' is_ul ?h); (case h => walk_at "el"))
  | ((with_reducible refine' is_ur ?h); (case h => walk_at "el"))
  | ((with_reducible refine' is_St ?h); (case h => first | (with_reducible assumption) | decide +kernel))
  | ((with_reducible refine' is_kTu ?t ?h); (case t => walk_at "fr0"); (case h => walk_at "as"))
  | ((with_reducible refine' is_kTr ?h); (case h => walk_at "el"))
  | ((with_reducible refine' is_kTl ?h); (case h => walk_at "el"))
  | ((with_reducible refine' is_kTq ?t ?h); (case t => walk_at "tqs"); (case h => walk_at "as")))
open PySem L2 Toy in
local macro_rules | `(tactic| walk_at "elz") => `(tactic| first | walk_at "el" | walk_at "fr")
open PySem L2 Toy in
local macro_rules | `(tactic| walk_at "els") => `(tactic| first
  | (with_reducible exact is_nil)
  | ((with_reducible refine' is_c1 ?h); (case h => walk_at "el"))
  | ((with_reducible refine' is_c ?h ?g); (case h => walk_at "el"); (case g => walk_at "els")))
open PySem L2 Toy in
local macro_rules | `(tactic| walk_at "as") => `(tactic| first
  | (with_reducible exact isA_nil)
  | ((with_reducible refine' isA_c ?h ?g); (case h => walk_at "el"); (case g => walk_at "as")))
open PySem L2 Toy in
local macro_rules | `(tactic| walk_at "acs") => `(tactic| first
  | (with_reducible exact isA_nil)
  | ((with_reducible refine' isA_c ?h ?g); (case h => walk_at "ct"); (case g => walk_at "acs")))
open PySem L2 Toy in
local macro_rules | `(tactic| walk_at "ct") => `(tactic| first
  | ((with_reducible refine' isC_e ?h); (case h => walk_at "el"))
  | ((with_reducible refine' isC_ls ?h); (case h => walk_at "fr0"))
  | ((with_reducible refine' isC_lsO ?h); (case h => walk_at "fr0"))
  | ((with_reducible refine' isC_t ?t ?h); (case t => walk_at "fr0"); (case h => walk_at "cts"))
  | ((with_reducible refine' isC_l ?t ?h); (case t => walk_at "fr0"); (case h => walk_at "acs")))
open PySem L2 Toy in
local macro_rules | `(tactic| walk_at "cts") => `(tactic| first
  | (with_reducible exact isC_n)
  | ((with_reducible refine' isC_c1 ?h); (case h => walk_at "ct"))
  | ((with_reducible refine' isC_c ?h ?g); (case h => walk_at "ct"); (case g => walk_at "cts")))
open PySem L2 Toy in
local macro_rules | `(tactic| walk_at "sub1") => `(tactic| first
  | ((with_reducible refine' Sub.is ?h ?_); (case h => walk_at "el"))
  | walk_at "sub11"
  | (with_reducible refine Sub.oNone ?_) | (with_reducible refine Sub.oSome ?_) | (with_reducible refine Sub.oI ?_) | (with_reducible refine Sub.oE ?_) | ((with_reducible refine' Sub.oSomeE ?e ?_); (case e => (with_reducible assumption))) | ((with_reducible refine' Sub.oTt ?t ?_); (case t => walk_at "fr0")) | (with_reducible refine Sub.oC ?_) | (with_reducible refine Sub.oC1 ?_)
  | walk_at "dr")
open PySem L2 Toy in
local macro_rules | `(tactic| walk_at "sub11") => `(tactic| with_reducible first
  | exact Sub.refl | exact Sub.nil
  | ((refine' Sub.pu ?h ?_); (case h => with_unfolding_all walk_at "cl"))
  | ((refine Sub.all ?_); simp only [List.cons_append, List.nil_append])
  | (refine Sub.ex _ ?_)
  | ((refine' Sub.take (Take.keep ?t) ?_); (case t => walk_at "fr"))
  | ((refine' Sub.take ?t ?_); (case t => walk_at "fr"))
  | ((refine' Sub.take (take_ls0 ?t) ?_); (case t => walk_at "fr"))
  | ((refine' Sub.take (take_eq ?e ?t) ?_); (case t => walk_at "fr"); (case e => with_unfolding_all rfl))
  | ((refine' Sub.take (take_eqLs ?e ?t) ?_); (case t => walk_at "fr"); (case e => with_unfolding_all rfl))
  | ((refine' Sub.take (take_eqVl ?e ?t) ?_); (case t => walk_at "fr"); (case e => with_unfolding_all rfl)))
open PySem L2 Toy in
local macro_rules | `(tactic| walk_at "subR1") => `(tactic| first
  | (with_reducible exact Sub.refl)
  | ((with_reducible refine' Sub.is ?h ?m); (case h => walk_at "el"); (case m => walk_at "subR1"))
  | ((with_reducible refine' Sub.take (Take.keep ?t) ?m); (case t => walk_at "fr0"); (case m => walk_at "subR1"))
  | ((with_reducible refine' Sub.take ?t ?m); (case t => walk_at "fr"); (case m => walk_at "subR1"))
  | ((refine' Sub.take (take_eq ?e ?t) ?m); (case t => walk_at "fr0"); (case e => with_unfolding_all rfl); (case m => walk_at "subR1"))
  | ((with_reducible refine' Sub.oNone ?m); (case m => walk_at "subR1"))
  | ((with_reducible refine' Sub.oSome ?m); (case m => walk_at "subR1"))
  | ((with_reducible refine' Sub.oI ?m); (case m => walk_at "subR1"))
  | ((with_reducible refine' Sub.oE ?m); (case m => walk_at "subR1"))
  | ((with_reducible refine' Sub.oC ?m); (case m => walk_at "subR1"))
  | ((with_reducible refine' Sub.oC1 ?m); (case m => walk_at "subR1"))
  | ((with_reducible refine' Sub.oSomeE ?e ?m); (case e => (with_reducible assumption)); (case m => walk_at "subR1"))
  | ((with_reducible refine' Sub.oTt ?t ?m); (case t => walk_at "fr0"); (case m => walk_at "subR1")))
open PySem L2 Toy in
local macro_rules | `(tactic| walk_at "subR") => `(tactic| ((try simp only [List.cons_append, List.nil_append]); walk_at "subR1"))
open PySem L2 Toy in
local macro_rules | `(tactic| walk_at "norm") => `(tactic| try simp only [List.cons_append, List.nil_append, upds, List.set_cons_succ, List.set_cons_zero])
open PySem L2 Toy in
local macro_rules | `(tactic| walk_at "nv") => `(tactic| first
  | (with_reducible first | refine Ent.vI ?_ | refine Ent.vB ?_ | refine Ent.vSt ?_ | refine Ent.vN ?_ | refine Ent.vFz fun _ => ?_ | refine Ent.vTr fun _ => ?_ | refine Ent.vI2 ?_ | refine Ent.vB2 ?_ | refine Ent.vS2 ?_) | intro _)
open PySem L2 Toy in
local macro_rules | `(tactic| walk_at "opn") => `(tactic| first
  | ((with_reducible refine Ent.els1I fun e => ?_); subst e)
  | ((with_reducible refine Ent.els1B fun e => ?_); subst e)
  | ((with_reducible refine Ent.els1S fun e => ?_); subst e)
  | ((with_reducible refine Ent.els1Fz fun _ e => ?_); subst e)
  | ((with_reducible refine Ent.els1T fun _ e => ?_); subst e)
  | ((with_reducible refine Ent.els1 fun _ e => ?_); subst e)
  | ((with_reducible refine Ent.elsCI fun _ e => ?_); subst e; walk_at "opn")
  | ((with_reducible refine Ent.elsCB fun _ e => ?_); subst e; walk_at "opn")
  | ((with_reducible refine Ent.elsCS fun _ e => ?_); subst e; walk_at "opn")
  | ((with_reducible refine Ent.elsCFz fun _ _ e => ?_); subst e; walk_at "opn")
  | ((with_reducible refine Ent.elsCT fun _ _ e => ?_); subst e; walk_at "opn")
  | ((with_reducible refine Ent.elsC fun _ _ e => ?_); subst e; walk_at "opn")
  | ((with_reducible refine Ent.elsN fun e => ?_); subst e))
open PySem L2 Toy in
local macro_rules | `(tactic| walk_at "gR1") => `(tactic| first
  | (with_reducible refine c_I $(Lean.mkIdent `hm) (fun $(Lean.mkIdent `hm) => ?_))
  | (with_reducible first | refine e_I0 ?_ | refine e_eqII ?_ | refine e_neII ?_ | refine e_eqSS ?_ | refine e_neSS ?_ | refine e_eqBB ?_ | refine e_neBB ?_)
  | ((with_reducible refine' e_I ?h ?_); (case h => walk_at "si"))
  | ((with_reducible refine' c_ix $(Lean.mkIdent `hm) ?t (fun w $(Lean.mkIdent `hm) => ?_)); (case t => walk_at "fr"); walk_at "nv")
  | ((with_reducible refine' c_ixT $(Lean.mkIdent `hm) ?t (fun w $(Lean.mkIdent `hm) => ?_)); (case t => walk_at "fr0"); walk_at "nv")
  | ((with_reducible refine' e_ixT ?h ?g ?_); (case h => walk_at "ht"); (case g => rfl))
  | ((with_reducible refine' c_opnIx ?t (fun a us e => ?_)); (case t => walk_at "fr0"); (first | subst e | rw [e]); walk_at "opn")
  | ((with_reducible refine' e_eqC ?h ?g ?_); (case h => walk_at "ct"); (case g => walk_at "ct"))
  | ((with_reducible refine' e_neC ?h ?g ?_); (case h => walk_at "ct"); (case g => walk_at "ct"))
  | ((with_reducible refine' c_isO ?t ?n ?_); (case t => walk_at "fr0"); (case n => infer_instance))
  | ((with_reducible refine' c_noO ?t ?n ?_); (case t => walk_at "fr0"); (case n => infer_instance))
  | ((with_reducible refine' c_isOw ?t ?n ?_); (case t => walk_at "fr0"); (case n => infer_instance))
  | ((with_reducible refine' c_noOw ?t ?n ?_); (case t => walk_at "fr0"); (case n => infer_instance))
  | ((with_reducible refine' c_opnO ?t (fun a us e => ?_)); (case t => walk_at "fr0"); (first | subst e | rw [e]); walk_at "opno")
  | (with_reducible first | refine c_isT ?_ | refine c_noT ?_)
  | (with_reducible first | refine e_isBl ?_ | refine e_notBl ?_)
  | ((with_reducible refine' c_isF ?h ?_); (case h => intro z; cases z))
  | ((with_reducible refine' c_noF ?h ?_); (case h => intro z; cases z))
  | ((with_reducible refine' e_inLs ?h ?_); (case h => walk_at "fr"))
  | ((with_reducible refine' c_inO ?v ?t ?_); (case t => walk_at "fr"); (case v => walk_at "el"))
  | ((with_reducible refine' c_inI1 ?t ?_); (case t => walk_at "ht"))
  | ((with_reducible refine' c_inS1 ?t ?_); (case t => walk_at "ht"))
  | ((with_reducible refine' c_niI1 ?t ?_); (case t => walk_at "ht"))
  | ((with_reducible refine' c_niS1 ?t ?_); (case t => walk_at "ht"))
  | ((with_reducible refine' c_inI2 ?t ?_); (case t => walk_at "ht"))
  | ((with_reducible refine' c_inS2 ?t ?_); (case t => walk_at "ht"))
  | ((with_reducible refine' c_niI2 ?t ?_); (case t => walk_at "ht"))
  | ((with_reducible refine' c_niS2 ?t ?_); (case t => walk_at "ht"))
  | ((with_reducible refine' c_inI3 ?t ?_); (case t => walk_at "ht"))
  | ((with_reducible refine' c_inS3 ?t ?_); (case t => walk_at "ht"))
  | ((with_reducible refine' c_niI3 ?t ?_); (case t => walk_at "ht"))
  | ((with_reducible refine' c_niS3 ?t ?_); (case t => walk_at "ht"))
  | ((with_reducible refine' c_inI4 ?t ?_); (case t => walk_at "ht"))
  | ((with_reducible refine' c_inS4 ?t ?_); (case t => walk_at "ht"))
  | ((with_reducible refine' c_niI4 ?t ?_); (case t => walk_at "ht"))
  | ((with_reducible refine' c_niS4 ?t ?_); (case t => walk_at "ht"))
  | ((with_reducible refine' c_inI5 ?t ?_); (case t => walk_at "ht"))
  | ((with_reducible refine' c_inS5 ?t ?_); (case t => walk_at "ht"))
  | ((with_reducible refine' c_niI5 ?t ?_); (case t => walk_at "ht"))
  | ((with_reducible refine' c_niS5 ?t ?_); (case t => walk_at "ht"))
  | ((with_reducible refine' c_inI6 ?t ?_); (case t => walk_at "ht"))
  | ((with_reducible refine' c_inS6 ?t ?_); (case t => walk_at "ht"))
  | ((with_reducible refine' c_niI6 ?t ?_); (case t => walk_at "ht"))
  | ((with_reducible refine' c_niS6 ?t ?_); (case t => walk_at "ht"))
  | ((with_reducible refine' c_inI7 ?t ?_); (case t => walk_at "ht"))
  | ((with_reducible refine' c_inS7 ?t ?_); (case t => walk_at "ht"))
  | ((with_reducible refine' c_niI7 ?t ?_); (case t => walk_at "ht"))
  | ((with_reducible refine' c_niS7 ?t ?_); (case t => walk_at "ht"))
  | ((with_reducible refine' c_inI8 ?t ?_); (case t => walk_at "ht"))
  | ((with_reducible refine' c_inS8 ?t ?_); (case t => walk_at "ht"))
  | ((with_reducible refine' c_niI8 ?t ?_); (case t => walk_at "ht"))
  | ((with_reducible refine' c_niS8 ?t ?_); (case t => walk_at "ht"))
  | ((with_reducible refine' c_inS9 ?t ?_); (case t => walk_at "ht"))
  | ((with_reducible refine' c_niS9 ?t ?_); (case t => walk_at "ht"))
  | ((with_reducible refine' c_inS10 ?t ?_); (case t => walk_at "ht"))
  | ((with_reducible refine' c_niS10 ?t ?_); (case t => walk_at "ht"))
  | ((with_reducible refine' c_inS11 ?t ?_); (case t => walk_at "ht"))
  | ((with_reducible refine' c_niS11 ?t ?_); (case t => walk_at "ht"))
  | ((with_reducible refine' c_inS12 ?t ?_); (case t => walk_at "ht"))
  | ((with_reducible refine' c_niS12 ?t ?_); (case t => walk_at "ht"))
  | ((with_reducible refine' c_inLsS ?t ?_); (case t => walk_at "fr"))
  | ((with_reducible refine' c_niLsS ?t ?_); (case t => walk_at "fr"))
  | ((with_reducible refine' c_inSqS ?t ?_); (case t => walk_at "sq2"))
  | ((with_reducible refine' c_niSqS ?t ?_); (case t => walk_at "sq2"))
  | ((with_reducible refine' c_inKT ?t ?_); (case t => walk_at "ktt"))
  | ((with_reducible refine' c_niKT ?t ?_); (case t => walk_at "ktt"))
  | ((with_reducible refine' c_inKQ ?t ?_); (case t => walk_at "kqt"))
  | ((with_reducible refine' c_niKQ ?t ?_); (case t => walk_at "kqt"))
  | walk_at "ixq"
  | walk_at "vts"
  | ((with_reducible refine' c_neDk0 ?t ?g ?_); (case t => walk_at "fr"); (case g => walk_at "fr0"))
  | ((with_reducible refine' e_niLs ?h ?_); (case h => walk_at "fr"))
  | ((with_reducible refine' c_inSq ?h ?_); (case h => walk_at "sq2"))
  | ((with_reducible refine' c_niSq ?h ?_); (case h => walk_at "sq2"))
  | walk_at "cat"
  | walk_at "rep"
  | walk_at "tcat"
  | ((with_reducible refine' c_catKT ?t ?g $(Lean.mkIdent `hm) (fun $(Lean.mkIdent `hm) _ => ?_)); (case t => walk_at "fr0"); (case g => walk_at "fr0"))
  | ((with_reducible refine' c_inIDk ?t ?_); (case t => walk_at "fr"))
  | ((with_reducible refine' c_niIDk ?t ?_); (case t => walk_at "fr"))
  | ((with_reducible refine' c_inSDk ?t ?_); (case t => walk_at "fr"))
  | ((with_reducible refine' c_niSDk ?t ?_); (case t => walk_at "fr"))
  | ((with_reducible refine' c_ixD $(Lean.mkIdent `hm) ?d (fun w $(Lean.mkIdent `hm) => ?_)); (case d => walk_at "kdt"))
  | ((with_reducible refine' c_inD $(Lean.mkIdent `hm) ?d (fun $(Lean.mkIdent `hm) => ?_)); (case d => walk_at "kdt"))
  | ((with_reducible refine' c_niD $(Lean.mkIdent `hm) ?d (fun $(Lean.mkIdent `hm) => ?_)); (case d => walk_at "kdt"))
  | ((with_reducible refine' e_ownNe ?h ?ht ?hn ?_); (case h => walk_at "ins"); (case ht => walk_at "tyx"); (case hn => walk_at "nfst"))
  | ((with_reducible refine' e_own ?h ?ht ?hn ?_); (case h => walk_at "ins"); (case ht => walk_at "tyx"); (case hn => walk_at "nfst"))
  | ((with_reducible refine' e_eq ?h ?_); (case h => rfl))
  | ((with_reducible refine' e_ne ?h ?_); (case h => rfl)))
open PySem L2 Toy in
local macro_rules | `(tactic| walk_at "gC1") => `(tactic| first
  | ((with_reducible refine' c_lenSq ?h ?_); (case h => walk_at "sq2"))
  | ((with_reducible refine' c_listSq ?h (fun _ => ?_)); (case h => walk_at "sq2"))
  | walk_at "rpr"
  | ((with_reducible refine' c_lenDk ?t ?_); (case t => walk_at "fr"))
  | ((with_reducible refine' c_sortedP ?t (fun _ => ?_)); (case t => walk_at "fr"))
  | ((with_reducible refine' c_dictCp ?t (fun _ => ?_)); (case t => walk_at "fr"))
  | ((with_reducible refine' c_listDkI ?t (fun _ => ?_)); (case t => walk_at "fr"))
  | ((with_reducible refine' c_sortDkI $(Lean.mkIdent `hm) ?t (fun $(Lean.mkIdent `hm) _ => ?_)); (case t => walk_at "fr"))
  | ((with_reducible refine' c_all ?h ?_); (case h => walk_at "fr"))
  | ((with_reducible refine' e_isi (r := true) ?ht ?hc ?hk ?_); (case ht => walk_at "tyx"); (case hc => (first | exact .ty _ | exact .own _)); (case hk => walk_at "kit"))
  | ((with_reducible refine' e_isi (r := false) ?ht ?hc ?hk ?_); (case ht => walk_at "tyx"); (case hc => (first | exact .ty _ | exact .own _)); (case hk => walk_at "kit"))
  | ((with_reducible refine' e_lenLs ?h ?_); (case h => walk_at "fr"))
  | ((with_reducible refine' c_lenT ?h ?_); (case h => walk_at "fr0"))
  | ((with_reducible refine' e_lenT ?h ?_); (case h => walk_at "ht"))
  | ((with_reducible refine' c_opnLenT ?t (fun a us e => ?_)); (case t => walk_at "fr0"); (first | subst e | rw [e]); walk_at "opn")
  | ((with_reducible refine' e_sort ?h (fun _ => ?_)); (case h => walk_at "fr"))
  | ((with_reducible refine' c_setI $(Lean.mkIdent `hm) ?t (fun $(Lean.mkIdent `hm) _ _ hc64 => ?_)); (case t => walk_at "fr"))
  | ((with_reducible refine' c_setU $(Lean.mkIdent `hm) ?t (fun _ $(Lean.mkIdent `hm) _ _ hc64 => ?_)); (case t => walk_at "fr0"))
  | ((with_reducible refine' c_listKT ?t ?z (fun _ => ?_)); (case t => walk_at "ktt"); (case z => decide +kernel))
  | ((with_reducible refine' c_lenKTD ?t ?_); (case t => walk_at "ktt"))
  | ((with_reducible refine' c_isiUS ?t ?_); (case t => walk_at "fr0"))
  | ((with_reducible refine' c_sortSet (K := $(Lean.mkIdent `K)) ?h ?t (fun _ => ?_)); (case t => walk_at "fr0"); (case h => (with_reducible assumption)))
  | ((with_reducible refine' c_minDk $(Lean.mkIdent `hm) ?h (fun _ $(Lean.mkIdent `hm) => ?_)); (case h => walk_at "fr"))
  | ((with_reducible refine' c_min $(Lean.mkIdent `hm) ?h (fun _ $(Lean.mkIdent `hm) => ?_)); (case h => walk_at "fr"))
  | ((with_reducible refine' e_listLs ?h (fun _ => ?_)); (case h => walk_at "fr"))
  | ((with_reducible refine' e_tupLs ?h (fun _ => ?_)); (case h => walk_at "fr"))
  | ((with_reducible refine' c_tupFz ?h (fun _ => ?_)); (case h => walk_at "fr0"))
  | ((with_reducible refine' c_tupSq ?h (fun _ => ?_)); (case h => walk_at "sq2")))
open PySem L2 Toy in
local macro_rules | `(tactic| walk_at "gM1") => `(tactic| first
  | ((with_reducible refine' c_app $(Lean.mkIdent `hm) ?t ?y (fun $(Lean.mkIdent `hm) => ?_)); (case t => walk_at "fr"); (case y => walk_at "el"))
  | ((with_reducible refine' c_ins0 $(Lean.mkIdent `hm) ?t ?y (fun $(Lean.mkIdent `hm) => ?_)); (case t => walk_at "fr"); (case y => walk_at "el"))
  | ((with_reducible refine' e_appDrop $(Lean.mkIdent `hm) ?t (fun $(Lean.mkIdent `hm) => ?_)); (case t => walk_at "fr"))
  | ((with_reducible refine' c_pop $(Lean.mkIdent `hm) ?t (fun w $(Lean.mkIdent `hm) => ?_)); (case t => walk_at "fr"); walk_at "nv")
  | ((with_reducible refine' c_popAt $(Lean.mkIdent `hm) ?t (fun w $(Lean.mkIdent `hm) => ?_)); (case t => walk_at "fr"); walk_at "nv")
  | ((with_reducible refine' c_indexS $(Lean.mkIdent `hm) ?t (fun j $(Lean.mkIdent `hm) => ?_)); (case t => walk_at "fr"))
  | ((with_reducible refine' c_remD $(Lean.mkIdent `hm) ?t ?v ?D ?n (fun j $(Lean.mkIdent `hm) => ?_)); (case t => walk_at "fr"); (case v => walk_at "el"); (case D => infer_instance); (case n => exact Nat.le_of_ble_eq_true rfl))
  | ((with_reducible refine' e_clearLs ?h ?_); (case h => walk_at "fr")))
open PySem L2 Toy in
local macro_rules | `(tactic| walk_at "gG1") => `(tactic| first
  | (with_reducible refine e_gname ?_) | (with_reducible refine e_gall ?_) | ((with_reducible refine' e_gtup ?h ?g ?_); (case h => walk_at "ht"); (case g => rfl)) | (with_reducible refine e_gsub ?_)
  | ((with_reducible refine' c_opnOG ?t (fun a us e => ?_)); (case t => walk_at "fr0"); (first | subst e | rw [e]); walk_at "opno")
  | ((with_reducible refine' c_opnG ?t (fun a us e => ?_)); (case t => walk_at "fr0"); (first | subst e | rw [e]); walk_at "opn"))
open PySem L2 Toy in
local macro_rules | `(tactic| walk_at "opno") => `(tactic| first
  | ((with_reducible refine Ent.owC1EI fun e => ?_); subst e)
  | ((with_reducible refine Ent.owCEI fun _ e => ?_); subst e; walk_at "opno")
  | ((with_reducible refine Ent.owC1I fun _ e => ?_); subst e)
  | ((with_reducible refine Ent.owCI fun _ _ e => ?_); subst e; walk_at "opno")
  | ((with_reducible refine Ent.owC1E fun _ e => ?_); subst e)
  | ((with_reducible refine Ent.owCE fun _ _ e => ?_); subst e; (with_reducible refine Ent.swp ?_); walk_at "opno"))
open PySem L2 Toy in
local macro_rules | `(tactic| walk_at "gT1") => `(tactic| first
  | walk_at "sT"
  | ((with_reducible refine' c_cutT $(Lean.mkIdent `hm) (fun jp $(Lean.mkIdent `hm) => ?q) (fun b $(Lean.mkIdent `hm) => ?_)); (case q => repeat (walk_at "go"))))
open PySem L2 Toy in
local macro_rules | `(tactic| walk_at "sq2") => `(tactic| first
  | ((refine' SqAt.sub ?z ?y); (case y => (with_reducible assumption)); (case z => walk_at "dr"))
  | ((refine' sqAt_ls ?z); (case z => walk_at "fr"))
  | ((refine' sqAt_kT ?z); (case z => walk_at "fr0"))
  | ((refine' sqAt_fz ?z); (case z => walk_at "fr0")))
open PySem L2 Toy in
local macro_rules | `(tactic| walk_at "rdl") => `(tactic| first
  | ((refine' rdL_fz ?z); (case z => walk_at "fr0"))
  | ((refine' rdL_ls ?z); (case z => walk_at "fr")))
open PySem L2 Toy in
local macro_rules | `(tactic| walk_at "man") => `(tactic| first
  | ((with_reducible refine' c_draw $(Lean.mkIdent `hm) ?t (fun d $(Lean.mkIdent `hm) => ?_)); (case t => walk_at "fr0"))
  | ((with_reducible refine' c_pick $(Lean.mkIdent `hm) ?t ?l (fun w $(Lean.mkIdent `hm) => ?_)); (case t => walk_at "fr0"); (case l => walk_at "fr"); walk_at "nv")
  | ((with_reducible refine' c_isList ?h ?_); (case h => walk_at "sq2"))
  | ((with_reducible refine' e_pot ?t ?a ?b (fun _ => ?_)); (case t => walk_at "fr0"); (case a => omega); (case b => omega))
  | (with_reducible first | refine e_integer ?_ | refine e_count ?_ | refine e_isWord ?_ | refine e_B1 ?_)
  | (with_reducible first | refine c_wantMany $(Lean.mkIdent `hm) (fun $(Lean.mkIdent `hm) => ?_) | refine c_wantWord $(Lean.mkIdent `hm) (fun $(Lean.mkIdent `hm) => ?_) | refine c_W1 $(Lean.mkIdent `hm) (fun $(Lean.mkIdent `hm) => ?_)))
open PySem L2 Toy in
local macro_rules | `(tactic| walk_at "dk1") => `(tactic| first
  | ((with_reducible refine' c_dgetI $(Lean.mkIdent `hm) ?t (fun w $(Lean.mkIdent `hm) => ?_)); (case t => walk_at "fr"); walk_at "nv")
  | ((with_reducible refine' c_dgetIL $(Lean.mkIdent `hm) ?t (fun w $(Lean.mkIdent `hm) => ?_)); (case t => walk_at "fr0"); walk_at "nv")
  | ((with_reducible refine' c_dputI $(Lean.mkIdent `hm) ?t ?v (fun $(Lean.mkIdent `hm) => ?_)); (case t => walk_at "fr"); (case v => walk_at "el"))
  | ((with_reducible refine' c_dpopI $(Lean.mkIdent `hm) ?t (fun w $(Lean.mkIdent `hm) => ?_)); (case t => walk_at "fr"); walk_at "nv")
  | ((with_reducible refine' c_dgdI ?t ?v ?_); (case t => walk_at "fr"); (case v => walk_at "el"); walk_at "nv")
  | ((with_reducible refine' c_dgetS $(Lean.mkIdent `hm) ?t (fun w $(Lean.mkIdent `hm) => ?_)); (case t => walk_at "fr"); walk_at "nv")
  | ((with_reducible refine' c_dputS $(Lean.mkIdent `hm) ?t ?v (fun $(Lean.mkIdent `hm) => ?_)); (case t => walk_at "fr"); (case v => walk_at "el"))
  | ((with_reducible refine' c_dpopS $(Lean.mkIdent `hm) ?t (fun w $(Lean.mkIdent `hm) => ?_)); (case t => walk_at "fr"); walk_at "nv")
  | ((with_reducible refine' c_dgdS ?t ?v ?_); (case t => walk_at "fr"); (case v => walk_at "el"); walk_at "nv")
  | ((with_reducible refine' c_dp0 ?t ?_); (case t => walk_at "fr"))
  | ((with_reducible refine' c_dg20 ?t ?_); (case t => walk_at "fr")))
open PySem L2 Toy in
local macro_rules | `(tactic| walk_at "gO1") => `(tactic| first
  | (with_reducible first | refine e_U ?_ | refine e_gcons ?_ | refine e_gnil ?_ | refine e_int1 ?_ | refine e_intB ?_ | refine e_nopart ?_ | refine e_part ?_ | refine e_rg1 ?_ | refine e_rg2 ?_ | refine e_new fun _ _ => ?_)
  | ((with_reducible refine' e_tyPt ?h ?_); (case h => walk_at "fr0"))
  | ((with_reducible refine' e_tyLs ?h ?_); (case h => walk_at "fr"))
  | ((with_reducible refine' e_fld ?h ?c ?n ?l ?_); (case h => walk_at "fr0"); (case c => walk_at "cls"); (case n => walk_at "nat"); (case l => rfl))
  | ((with_reducible refine' e_sfld ?h ?c ?n ?l ?e ?_); (case h => walk_at "fr0"); (case c => walk_at "cls"); (case n => walk_at "nat"); (case l => exact Nat.le_of_ble_eq_true rfl); (case e => rfl))
  | ((with_reducible refine' c_ixLr ?t ?e ?_); (case t => walk_at "fr0"); (case e => with_unfolding_all exact rfl))
  | walk_at "open1"
  | walk_at "drc"
  | walk_at "dsp"
  | (with_reducible refine e_mko0 ?_)
  | ((with_reducible refine' e_coreN ?hC ?hn (fun d => ?_)); (case hC => walk_at "oxc"); (case hn => walk_at "oxn"))
  | ((with_reducible refine' e_coreV ?hC ?hn (fun d => ?_)); (case hC => walk_at "oxc"); (case hn => walk_at "oxn"))
  | ((with_reducible refine' c_sumT2 ?h ?_); (case h => walk_at "ht"))
  | ((with_reducible refine' c_isiO ?t ?h ?_); (case t => walk_at "fr0"); (case h => first | exact .inl ⟨rfl, rfl⟩ | exact .inr (.inl ⟨rfl, rfl⟩) | exact .inr (.inr ⟨rfl, rfl⟩)))
  | (with_reducible first | refine e_m1a ?_ | refine c_ixS $(Lean.mkIdent `hm) (fun _ $(Lean.mkIdent `hm) => ?_) | refine c_slS $(Lean.mkIdent `hm) (fun $(Lean.mkIdent `hm) => ?_) | refine c_addS $(Lean.mkIdent `hm) (fun $(Lean.mkIdent `hm) => ?_) | refine c_lenS $(Lean.mkIdent `hm) (fun $(Lean.mkIdent `hm) => ?_) | refine c_inSg ?_ | refine c_niSg ?_ | refine c_intS $(Lean.mkIdent `hm) (fun _ $(Lean.mkIdent `hm) => ?_) | refine c_strI $(Lean.mkIdent `hm) (fun $(Lean.mkIdent `hm) => ?_) | refine c_fmtI $(Lean.mkIdent `hm) (fun $(Lean.mkIdent `hm) => ?_))
  | ((with_reducible refine' c_jsI $(Lean.mkIdent `hm) ?h (fun $(Lean.mkIdent `hm) => ?_)); (case h => exact Nat.le_of_ble_eq_true rfl))
  | ((with_reducible refine' c_split (K := $(Lean.mkIdent `K)) $(Lean.mkIdent `hm) ?h ?g (fun $(Lean.mkIdent `hm) _ => ?_)); (case h => decide +kernel); (case g => decide +kernel))
  | ((with_reducible refine' c_join $(Lean.mkIdent `hm) ?h ?t (fun $(Lean.mkIdent `hm) => ?_)); (case h => decide +kernel); (case t => walk_at "fr"))
  | ((with_reducible refine' c_sumTv ?h ?_); (case h => walk_at "el"))
  | walk_at "vts"
  | (with_reducible refine e_kget0 ?_)
  | ((with_reducible refine' c_kget1 ?t ?_); (case t => walk_at "ktt"))
  | (with_reducible first | refine c_kget2S ?_ | refine c_kget2I ?_)
  | (with_reducible first | refine e_disp (fun _ => ?_) | refine e_pairC ?_ | refine e_pairN ?_ | refine e_pairK ?_)
  | ((with_reducible refine' e_newT ?h fun _ => ?_); (case h => walk_at "sz"))
  | ((with_reducible refine' e_newL ?h fun _ => ?_); (case h => walk_at "sz"))
  | ((with_reducible refine' c_all2 $(Lean.mkIdent `hm) ?t ?g (fun $(Lean.mkIdent `hm) => ?_)); (case t => walk_at "fr"); (case g => walk_at "fr"))
  | ((with_reducible refine' c_set $(Lean.mkIdent `hm) ?t ?y (fun j $(Lean.mkIdent `hm) => ?_)); (case t => walk_at "fr"); (case y => walk_at "el"))
  | ((with_reducible refine' e_slLs ?h fun _ => ?_); (case h => walk_at "fr"))
  | ((with_reducible refine' e_revLs ?h fun _ => ?_); (case h => walk_at "fr"))
  | ((with_reducible refine' e_newK ?h ?g fun _ _ => ?_); (case h => rfl); (case g => rfl))
  | ((with_reducible refine' c_slKT ?t (fun _ => ?_)); (case t => walk_at "fr0"))
  | walk_at "frz"
  | walk_at "tslc"
  | walk_at "dk1"
  | (with_reducible refine c_rgLs (K := $(Lean.mkIdent `K)) $(Lean.mkIdent `hm) (fun $(Lean.mkIdent `hm) _ => ?_))
  | (with_reducible first | refine e_lcR10 ?_ | refine e_lcR20 ?_)
  | (with_reducible refine e_exb ?_)
  | walk_at "sF" | walk_at "man" | walk_at "lc")
open PySem L2 Toy in
local macro_rules | `(tactic| walk_at "gst") => `(tactic| first
  | (with_reducible refine c_sok $(Lean.mkIdent `hm) (fun _ $(Lean.mkIdent `hm) => ?_))
  | ((with_reducible refine' c_get $(Lean.mkIdent `hm) ?t (fun w $(Lean.mkIdent `hm) e => ?_)); (case t => walk_at "fr0"); cases e)
  | ((with_reducible refine' c_getOS $(Lean.mkIdent `hm) ?t (fun w $(Lean.mkIdent `hm) e => ?_)); (case t => walk_at "fr0"); cases e)
  | ((with_reducible refine' c_getV $(Lean.mkIdent `hm) ?t (fun w $(Lean.mkIdent `hm) => ?_)); (case t => walk_at "fr0"))
  | ((with_reducible refine' c_getO $(Lean.mkIdent `hm) ?t (fun w $(Lean.mkIdent `hm) _ => ?_)); (case t => walk_at "fr0"))
  | ((with_reducible refine' c_getU0T $(Lean.mkIdent `hm) ?t (fun w $(Lean.mkIdent `hm) e _ => ?_)); (case t => walk_at "fr0"); cases e)
  | ((with_reducible refine' c_getU0S $(Lean.mkIdent `hm) ?t (fun w $(Lean.mkIdent `hm) e => ?_)); (case t => walk_at "fr0"); cases e)
  | ((with_reducible refine' c_getU0 $(Lean.mkIdent `hm) ?t (fun w $(Lean.mkIdent `hm) => ?_)); (case t => walk_at "fr0"))
  | ((with_reducible refine' c_getU1I $(Lean.mkIdent `hm) ?t (fun w $(Lean.mkIdent `hm) e => ?_)); (case t => walk_at "fr0"); cases e)
  | ((with_reducible refine' c_getU1 $(Lean.mkIdent `hm) ?t (fun w $(Lean.mkIdent `hm) => ?_)); (case t => walk_at "fr0"))
  | ((with_reducible refine gS ?_); first | walk_at "sS" | (with_reducible first | refine e_forR2 ?_ | refine e_forZA ?_ | refine e_forZN0 ?_ | refine e_forET ?_ | refine e_dput0 ?_))
  | ((with_reducible refine gE ?_); first | walk_at "sE" | ((with_reducible refine' e_lcSv ?h ?_); (case h => rfl)) | walk_at "lcS" | (with_reducible refine e_lcT0 ?_) | ((with_reducible refine e_lcF0 ?_)) | ((with_reducible refine' e_callX0 ?h ?g ?_); (case h => with_unfolding_all exact rfl); (case g => exact ⟨_, rfl, rfl⟩)) | ((with_reducible refine' e_js20 ?h ?_); (case h => exact Nat.le_of_ble_eq_true rfl)) | (with_reducible first | refine e_m1 ?_ | refine e_fmt0 ?_ | refine e_lcSt0 ?_ | refine e_callNS0 ?_ | refine e_dget0 ?_ | refine e_dnew (fun _ => ?_) | refine e_dpop0 ?_ | refine e_dg20 ?_) | ((with_reducible refine e_frz0 ?_)) | walk_at "cE")
  | ((with_reducible refine gT ?_); walk_at "gT1")
  | ((with_reducible refine gA ?_); walk_at "sA")
  | ((with_reducible refine gX ?_); walk_at "sX")
  | ((with_reducible refine gI ?_); (with_reducible first | refine eT ?_ | refine eF ?_ | refine eNT ?_ | refine eNF ?_))
  | ((with_reducible refine gR ?_); walk_at "gR1")
  | ((with_reducible refine gC ?_); walk_at "gC1")
  | ((with_reducible refine gM ?_); walk_at "gM1")
  | ((with_reducible refine gG ?_); walk_at "gG1")
  | ((with_reducible refine gN ?_); first | ((with_reducible refine' e_ln ?h ?_); (case h => rfl); (try simp only [List.getD_cons_zero, List.getD_cons_succ])) | walk_at "sN")
  | walk_at "gO1")
open PySem L2 Toy in
local macro_rules | `(tactic| walk_at "if") => `(tactic| first
  | (with_reducible first | refine c_if $(Lean.mkIdent `hm) (fun $(Lean.mkIdent `hm) => ?_) (fun $(Lean.mkIdent `hm) => ?_) | refine c_ifN $(Lean.mkIdent `hm) (fun $(Lean.mkIdent `hm) => ?_) (fun $(Lean.mkIdent `hm) => ?_) | refine c_ifB $(Lean.mkIdent `hm) (fun $(Lean.mkIdent `hm) => ?_) (fun $(Lean.mkIdent `hm) => ?_) | refine c_ifNB $(Lean.mkIdent `hm) (fun $(Lean.mkIdent `hm) => ?_) (fun $(Lean.mkIdent `hm) => ?_))
  | (refine c_if $(Lean.mkIdent `hm) (fun $(Lean.mkIdent `hm) => ?_) (fun $(Lean.mkIdent `hm) => ?_))
  | (refine c_ifN $(Lean.mkIdent `hm) (fun $(Lean.mkIdent `hm) => ?_) (fun $(Lean.mkIdent `hm) => ?_))
  | (refine c_ifB $(Lean.mkIdent `hm) (fun $(Lean.mkIdent `hm) => ?_) (fun $(Lean.mkIdent `hm) => ?_))
  | (refine c_ifNB $(Lean.mkIdent `hm) (fun $(Lean.mkIdent `hm) => ?_) (fun $(Lean.mkIdent `hm) => ?_)))
open PySem L2 Toy in
local macro_rules | `(tactic| walk_at "exo") => `(tactic| first
  | exact False.elim $(Lean.mkIdent `hm)
  | ((with_reducible refine' Ent.sub ?sxo ($(Lean.mkIdent `qx) $(Lean.mkIdent `hm) _)); (case sxo => walk_at "sub"))
  | ((refine' e_only ?hxo (fun _ => ?_)); (case hxo => walk_at "xes"); repeat (walk_at "go")))
open PySem L2 Toy in
local macro_rules | `(tactic| walk_at "fin") => `(tactic| first
  | ((with_reducible refine' Ent.sub ?s ($(Lean.mkIdent `qx) $(Lean.mkIdent `hm) _)); (case s => walk_at "sub"))
  | ((with_reducible refine' Ent.sub ?s ($(Lean.mkIdent `q) _ $(Lean.mkIdent `hm))); (case s => walk_at "sub"))
  | ((with_reducible refine' Ent.sub ?s ($(Lean.mkIdent `q) _ $(Lean.mkIdent `hm) _)); (case s => walk_at "sub"))
  | ((with_reducible refine' Ent.sub ?s ($(Lean.mkIdent `q) _ $(Lean.mkIdent `hm) _ _)); (case s => walk_at "sub"))
  | ((with_reducible refine' Ent.sub ?s ($(Lean.mkIdent `q) _ $(Lean.mkIdent `hm) _ _ _)); (case s => walk_at "sub"))
  | ((with_reducible refine' Ent.sub ?s ($(Lean.mkIdent `q) _ $(Lean.mkIdent `hm) _ _ _ _)); (case s => walk_at "sub"))
  | ((with_reducible refine' Ent.sub ?s ($(Lean.mkIdent `q1) _ _ $(Lean.mkIdent `hm))); (case s => walk_at "sub"))
  | ((with_reducible refine' Ent.sub ?s ($(Lean.mkIdent `q1) _ _ _ $(Lean.mkIdent `hm))); (case s => walk_at "sub"))
  | ((with_reducible refine' Ent.sub ?s ($(Lean.mkIdent `q2) $(Lean.mkIdent `hm))); (case s => walk_at "sub"))
  | ((with_reducible refine' Ent.sub ?s ($(Lean.mkIdent `q2) _ $(Lean.mkIdent `hm))); (case s => walk_at "sub"))
  | ((with_reducible refine' c_endT $(Lean.mkIdent `hm) ?s); (case s => walk_at "sub"))
  | ((with_reducible refine' c_endE $(Lean.mkIdent `hm) ?s); (case s => walk_at "sub"))
  | ((with_reducible refine' c_endL $(Lean.mkIdent `hm) ?s); (case s => walk_at "sub"))
  | ((with_reducible refine' c_endS $(Lean.mkIdent `hm) ?s); (case s => walk_at "sub"))
  | ((with_reducible refine' c_end $(Lean.mkIdent `hm) () ?h ?s); (case h => first | rfl | ((try dsimp only); rfl)); (case s => ((try dsimp only); walk_at "sub")))
  | ((with_reducible refine' c_end $(Lean.mkIdent `hm) (_, _, _, _, _, _, _, _, _, _, _, _, _, _, _, _, _, _, _, _, _, _, _, _, _, _, _, _, _, _) ?h ?s); (case h => ((try dsimp only); rfl)); (case s => ((try dsimp only); walk_at "sub")))
  | ((with_reducible refine' c_end $(Lean.mkIdent `hm) (_, _, _, _, _, _, _, _, _, _, _, _, _, _, _, _, _, _, _, _, _, _, _, _, _, _, _, _, _) ?h ?s); (case h => ((try dsimp only); rfl)); (case s => ((try dsimp only); walk_at "sub")))
  | ((with_reducible refine' c_end $(Lean.mkIdent `hm) (_, _, _, _, _, _, _, _, _, _, _, _, _, _, _, _, _, _, _, _, _, _, _, _, _, _, _, _) ?h ?s); (case h => ((try dsimp only); rfl)); (case s => ((try dsimp only); walk_at "sub")))
  | ((with_reducible refine' c_end $(Lean.mkIdent `hm) (_, _, _, _, _, _, _, _, _, _, _, _, _, _, _, _, _, _, _, _, _, _, _, _, _, _, _) ?h ?s); (case h => ((try dsimp only); rfl)); (case s => ((try dsimp only); walk_at "sub")))
  | ((with_reducible refine' c_end $(Lean.mkIdent `hm) (_, _, _, _, _, _, _, _, _, _, _, _, _, _, _, _, _, _, _, _, _, _, _, _, _, _) ?h ?s); (case h => ((try dsimp only); rfl)); (case s => ((try dsimp only); walk_at "sub")))
  | ((with_reducible refine' c_end $(Lean.mkIdent `hm) (_, _, _, _, _, _, _, _, _, _, _, _, _, _, _, _, _, _, _, _, _, _, _, _, _) ?h ?s); (case h => ((try dsimp only); rfl)); (case s => ((try dsimp only); walk_at "sub")))
  | ((with_reducible refine' c_end $(Lean.mkIdent `hm) (_, _, _, _, _, _, _, _, _, _, _, _, _, _, _, _, _, _, _, _, _, _, _, _) ?h ?s); (case h => ((try dsimp only); rfl)); (case s => ((try dsimp only); walk_at "sub")))
  | ((with_reducible refine' c_end $(Lean.mkIdent `hm) (_, _, _, _, _, _, _, _, _, _, _, _, _, _, _, _, _, _, _, _, _, _, _) ?h ?s); (case h => ((try dsimp only); rfl)); (case s => ((try dsimp only); walk_at "sub")))
  | ((with_reducible refine' c_end $(Lean.mkIdent `hm) (_, _, _, _, _, _, _, _, _, _, _, _, _, _, _, _, _, _, _, _, _, _) ?h ?s); (case h => ((try dsimp only); rfl)); (case s => ((try dsimp only); walk_at "sub")))
  | ((with_reducible refine' c_end $(Lean.mkIdent `hm) (_, _, _, _, _, _, _, _, _, _, _, _, _, _, _, _, _, _, _, _, _) ?h ?s); (case h => ((try dsimp only); rfl)); (case s => ((try dsimp only); walk_at "sub")))
  | ((with_reducible refine' c_end $(Lean.mkIdent `hm) (_, _, _, _, _, _, _, _, _, _, _, _, _, _, _, _, _, _, _, _) ?h ?s); (case h => ((try dsimp only); rfl)); (case s => ((try dsimp only); walk_at "sub")))
  | ((with_reducible refine' c_end $(Lean.mkIdent `hm) (_, _, _, _, _, _, _, _, _, _, _, _, _, _, _, _, _, _, _) ?h ?s); (case h => ((try dsimp only); rfl)); (case s => ((try dsimp only); walk_at "sub")))
  | ((with_reducible refine' c_end $(Lean.mkIdent `hm) (_, _, _, _, _, _, _, _, _, _, _, _, _, _, _, _, _, _) ?h ?s); (case h => ((try dsimp only); rfl)); (case s => ((try dsimp only); walk_at "sub")))
  | ((with_reducible refine' c_end $(Lean.mkIdent `hm) (_, _, _, _, _, _, _, _, _, _, _, _, _, _, _, _, _) ?h ?s); (case h => ((try dsimp only); rfl)); (case s => ((try dsimp only); walk_at "sub")))
  | ((with_reducible refine' c_end $(Lean.mkIdent `hm) (_, _, _, _, _, _, _, _, _, _, _, _, _, _, _, _) ?h ?s); (case h => ((try dsimp only); rfl)); (case s => ((try dsimp only); walk_at "sub")))
  | ((with_reducible refine' c_end $(Lean.mkIdent `hm) (_, _, _, _, _, _, _, _, _, _, _, _, _, _, _) ?h ?s); (case h => ((try dsimp only); rfl)); (case s => ((try dsimp only); walk_at "sub")))
  | ((with_reducible refine' c_end $(Lean.mkIdent `hm) (_, _, _, _, _, _, _, _, _, _, _, _, _, _) ?h ?s); (case h => ((try dsimp only); rfl)); (case s => ((try dsimp only); walk_at "sub")))
  | ((with_reducible refine' c_end $(Lean.mkIdent `hm) (_, _, _, _, _, _, _, _, _, _, _, _, _) ?h ?s); (case h => ((try dsimp only); rfl)); (case s => ((try dsimp only); walk_at "sub")))
  | ((with_reducible refine' c_end $(Lean.mkIdent `hm) (_, _, _, _, _, _, _, _, _, _, _, _) ?h ?s); (case h => ((try dsimp only); rfl)); (case s => ((try dsimp only); walk_at "sub")))
  | ((with_reducible refine' c_end $(Lean.mkIdent `hm) (_, _, _, _, _, _, _, _, _, _, _) ?h ?s); (case h => ((try dsimp only); rfl)); (case s => ((try dsimp only); walk_at "sub")))
  | ((with_reducible refine' c_end $(Lean.mkIdent `hm) (_, _, _, _, _, _, _, _, _, _) ?h ?s); (case h => ((try dsimp only); rfl)); (case s => ((try dsimp only); walk_at "sub")))
  | ((with_reducible refine' c_end $(Lean.mkIdent `hm) (_, _, _, _, _, _, _, _, _) ?h ?s); (case h => ((try dsimp only); rfl)); (case s => ((try dsimp only); walk_at "sub")))
  | ((with_reducible refine' c_end $(Lean.mkIdent `hm) (_, _, _, _, _, _, _, _) ?h ?s); (case h => ((try dsimp only); rfl)); (case s => ((try dsimp only); walk_at "sub")))
  | ((with_reducible refine' c_end $(Lean.mkIdent `hm) (_, _, _, _, _, _, _) ?h ?s); (case h => ((try dsimp only); rfl)); (case s => ((try dsimp only); walk_at "sub")))
  | ((with_reducible refine' c_end $(Lean.mkIdent `hm) (_, _, _, _, _, _) ?h ?s); (case h => ((try dsimp only); rfl)); (case s => ((try dsimp only); walk_at "sub")))
  | ((with_reducible refine' c_end $(Lean.mkIdent `hm) (_, _, _, _, _) ?h ?s); (case h => ((try dsimp only); rfl)); (case s => ((try dsimp only); walk_at "sub")))
  | ((with_reducible refine' c_end $(Lean.mkIdent `hm) (_, _, _, _) ?h ?s); (case h => ((try dsimp only); rfl)); (case s => ((try dsimp only); walk_at "sub")))
  | ((with_reducible refine' c_end $(Lean.mkIdent `hm) (_, _, _) ?h ?s); (case h => ((try dsimp only); rfl)); (case s => ((try dsimp only); walk_at "sub")))
  | ((with_reducible refine' c_end $(Lean.mkIdent `hm) (_, _) ?h ?s); (case h => ((try dsimp only); rfl)); (case s => ((try dsimp only); walk_at "sub")))
  | ((with_reducible refine' c_end $(Lean.mkIdent `hm) _ ?h ?s); (case h => ((try dsimp only); rfl)); (case s => ((try dsimp only); walk_at "sub")))
  | ((with_reducible refine' c_brk $(Lean.mkIdent `hbk) $(Lean.mkIdent `hm) () ?h ?s); (case h => ((try dsimp only); rfl)); (case s => ((try dsimp only); walk_at "sub")))
  | ((with_reducible refine' c_brk $(Lean.mkIdent `hbk) $(Lean.mkIdent `hm) (_, _, _, _, _, _, _, _, _, _, _, _, _, _, _, _, _, _, _, _, _, _, _, _, _, _, _, _, _, _) ?h ?s); (case h => ((try dsimp only); rfl)); (case s => ((try dsimp only); walk_at "sub")))
  | ((with_reducible refine' c_brk $(Lean.mkIdent `hbk) $(Lean.mkIdent `hm) (_, _, _, _, _, _, _, _, _, _, _, _, _, _, _, _, _, _, _, _, _, _, _, _, _, _, _, _, _) ?h ?s); (case h => ((try dsimp only); rfl)); (case s => ((try dsimp only); walk_at "sub")))
  | ((with_reducible refine' c_brk $(Lean.mkIdent `hbk) $(Lean.mkIdent `hm) (_, _, _, _, _, _, _, _, _, _, _, _, _, _, _, _, _, _, _, _, _, _, _, _, _, _, _, _) ?h ?s); (case h => ((try dsimp only); rfl)); (case s => ((try dsimp only); walk_at "sub")))
  | ((with_reducible refine' c_brk $(Lean.mkIdent `hbk) $(Lean.mkIdent `hm) (_, _, _, _, _, _, _, _, _, _, _, _, _, _, _, _, _, _, _, _, _, _, _, _, _, _, _) ?h ?s); (case h => ((try dsimp only); rfl)); (case s => ((try dsimp only); walk_at "sub")))
  | ((with_reducible refine' c_brk $(Lean.mkIdent `hbk) $(Lean.mkIdent `hm) (_, _, _, _, _, _, _, _, _, _, _, _, _, _, _, _, _, _, _, _, _, _, _, _, _, _) ?h ?s); (case h => ((try dsimp only); rfl)); (case s => ((try dsimp only); walk_at "sub")))
  | ((with_reducible refine' c_brk $(Lean.mkIdent `hbk) $(Lean.mkIdent `hm) (_, _, _, _, _, _, _, _, _, _, _, _, _, _, _, _, _, _, _, _, _, _, _, _, _) ?h ?s); (case h => ((try dsimp only); rfl)); (case s => ((try dsimp only); walk_at "sub")))
  | ((with_reducible refine' c_brk $(Lean.mkIdent `hbk) $(Lean.mkIdent `hm) (_, _, _, _, _, _, _, _, _, _, _, _, _, _, _, _, _, _, _, _, _, _, _, _) ?h ?s); (case h => ((try dsimp only); rfl)); (case s => ((try dsimp only); walk_at "sub")))
  | ((with_reducible refine' c_brk $(Lean.mkIdent `hbk) $(Lean.mkIdent `hm) (_, _, _, _, _, _, _, _, _, _, _, _, _, _, _, _, _, _, _, _, _, _, _) ?h ?s); (case h => ((try dsimp only); rfl)); (case s => ((try dsimp only); walk_at "sub")))
  | ((with_reducible refine' c_brk $(Lean.mkIdent `hbk) $(Lean.mkIdent `hm) (_, _, _, _, _, _, _, _, _, _, _, _, _, _, _, _, _, _, _, _, _, _) ?h ?s); (case h => ((try dsimp only); rfl)); (case s => ((try dsimp only); walk_at "sub")))
  | ((with_reducible refine' c_brk $(Lean.mkIdent `hbk) $(Lean.mkIdent `hm) (_, _, _, _, _, _, _, _, _, _, _, _, _, _, _, _, _, _, _, _, _) ?h ?s); (case h => ((try dsimp only); rfl)); (case s => ((try dsimp only); walk_at "sub")))
  | ((with_reducible refine' c_brk $(Lean.mkIdent `hbk) $(Lean.mkIdent `hm) (_, _, _, _, _, _, _, _, _, _, _, _, _, _, _, _, _, _, _, _) ?h ?s); (case h => ((try dsimp only); rfl)); (case s => ((try dsimp only); walk_at "sub")))
  | ((with_reducible refine' c_brk $(Lean.mkIdent `hbk) $(Lean.mkIdent `hm) (_, _, _, _, _, _, _, _, _, _, _, _, _, _, _, _, _, _, _) ?h ?s); (case h => ((try dsimp only); rfl)); (case s => ((try dsimp only); walk_at "sub")))
  | ((with_reducible refine' c_brk $(Lean.mkIdent `hbk) $(Lean.mkIdent `hm) (_, _, _, _, _, _, _, _, _, _, _, _, _, _, _, _, _, _) ?h ?s); (case h => ((try dsimp only); rfl)); (case s => ((try dsimp only); walk_at "sub")))
  | ((with_reducible refine' c_brk $(Lean.mkIdent `hbk) $(Lean.mkIdent `hm) (_, _, _, _, _, _, _, _, _, _, _, _, _, _, _, _, _) ?h ?s); (case h => ((try dsimp only); rfl)); (case s => ((try dsimp only); walk_at "sub")))
  | ((with_reducible refine' c_brk $(Lean.mkIdent `hbk) $(Lean.mkIdent `hm) (_, _, _, _, _, _, _, _, _, _, _, _, _, _, _, _) ?h ?s); (case h => ((try dsimp only); rfl)); (case s => ((try dsimp only); walk_at "sub")))
  | ((with_reducible refine' c_brk $(Lean.mkIdent `hbk) $(Lean.mkIdent `hm) (_, _, _, _, _, _, _, _, _, _, _, _, _, _, _) ?h ?s); (case h => ((try dsimp only); rfl)); (case s => ((try dsimp only); walk_at "sub")))
  | ((with_reducible refine' c_brk $(Lean.mkIdent `hbk) $(Lean.mkIdent `hm) (_, _, _, _, _, _, _, _, _, _, _, _, _, _) ?h ?s); (case h => ((try dsimp only); rfl)); (case s => ((try dsimp only); walk_at "sub")))
  | ((with_reducible refine' c_brk $(Lean.mkIdent `hbk) $(Lean.mkIdent `hm) (_, _, _, _, _, _, _, _, _, _, _, _, _) ?h ?s); (case h => ((try dsimp only); rfl)); (case s => ((try dsimp only); walk_at "sub")))
  | ((with_reducible refine' c_brk $(Lean.mkIdent `hbk) $(Lean.mkIdent `hm) (_, _, _, _, _, _, _, _, _, _, _, _) ?h ?s); (case h => ((try dsimp only); rfl)); (case s => ((try dsimp only); walk_at "sub")))
  | ((with_reducible refine' c_brk $(Lean.mkIdent `hbk) $(Lean.mkIdent `hm) (_, _, _, _, _, _, _, _, _, _, _) ?h ?s); (case h => ((try dsimp only); rfl)); (case s => ((try dsimp only); walk_at "sub")))
  | ((with_reducible refine' c_brk $(Lean.mkIdent `hbk) $(Lean.mkIdent `hm) (_, _, _, _, _, _, _, _, _, _) ?h ?s); (case h => ((try dsimp only); rfl)); (case s => ((try dsimp only); walk_at "sub")))
  | ((with_reducible refine' c_brk $(Lean.mkIdent `hbk) $(Lean.mkIdent `hm) (_, _, _, _, _, _, _, _, _) ?h ?s); (case h => ((try dsimp only); rfl)); (case s => ((try dsimp only); walk_at "sub")))
  | ((with_reducible refine' c_brk $(Lean.mkIdent `hbk) $(Lean.mkIdent `hm) (_, _, _, _, _, _, _, _) ?h ?s); (case h => ((try dsimp only); rfl)); (case s => ((try dsimp only); walk_at "sub")))
  | ((with_reducible refine' c_brk $(Lean.mkIdent `hbk) $(Lean.mkIdent `hm) (_, _, _, _, _, _, _) ?h ?s); (case h => ((try dsimp only); rfl)); (case s => ((try dsimp only); walk_at "sub")))
  | ((with_reducible refine' c_brk $(Lean.mkIdent `hbk) $(Lean.mkIdent `hm) (_, _, _, _, _, _) ?h ?s); (case h => ((try dsimp only); rfl)); (case s => ((try dsimp only); walk_at "sub")))
  | ((with_reducible refine' c_brk $(Lean.mkIdent `hbk) $(Lean.mkIdent `hm) (_, _, _, _, _) ?h ?s); (case h => ((try dsimp only); rfl)); (case s => ((try dsimp only); walk_at "sub")))
  | ((with_reducible refine' c_brk $(Lean.mkIdent `hbk) $(Lean.mkIdent `hm) (_, _, _, _) ?h ?s); (case h => ((try dsimp only); rfl)); (case s => ((try dsimp only); walk_at "sub")))
  | ((with_reducible refine' c_brk $(Lean.mkIdent `hbk) $(Lean.mkIdent `hm) (_, _, _) ?h ?s); (case h => ((try dsimp only); rfl)); (case s => ((try dsimp only); walk_at "sub")))
  | ((with_reducible refine' c_brk $(Lean.mkIdent `hbk) $(Lean.mkIdent `hm) (_, _) ?h ?s); (case h => ((try dsimp only); rfl)); (case s => ((try dsimp only); walk_at "sub")))
  | ((with_reducible refine' c_brk $(Lean.mkIdent `hbk) $(Lean.mkIdent `hm) _ ?h ?s); (case h => ((try dsimp only); rfl)); (case s => ((try dsimp only); walk_at "sub")))
  | exact rt_law $(Lean.mkIdent `hm) $(Lean.mkIdent `q)
  | exact False.elim $(Lean.mkIdent `hm))
open PySem L2 Toy in
local macro_rules | `(tactic| walk_at "go") => `(tactic| first | walk_at "gst" | walk_at "if" | walk_at "fin")
open PySem L2 Toy in
local macro_rules | `(tactic| walk_at "subRn1") => `(tactic| first
  | (with_reducible exact Sub.refl)
  | ((with_reducible refine' Sub.is ?h ?m); (case h => walk_at "el"); (case m => walk_at "subRn1"))
  | ((with_reducible refine' Sub.take (Take.keep ?t) ?m); (case t => walk_at "fr0"); (case m => walk_at "subRn1"))
  | ((with_reducible refine' Sub.take ?t ?m); (case t => walk_at "fr1"); (case m => walk_at "subRn1"))
  | ((refine' Sub.take (take_eq ?e ?t) ?m); (case t => walk_at "fr0"); (case e => with_unfolding_all rfl); (case m => walk_at "subRn1"))
  | ((with_reducible refine' Sub.oNone ?m); (case m => walk_at "subRn1"))
  | ((with_reducible refine' Sub.oSome ?m); (case m => walk_at "subRn1"))
  | ((with_reducible refine' Sub.oI ?m); (case m => walk_at "subRn1"))
  | ((with_reducible refine' Sub.oE ?m); (case m => walk_at "subRn1"))
  | ((with_reducible refine' Sub.oC ?m); (case m => walk_at "subRn1"))
  | ((with_reducible refine' Sub.oC1 ?m); (case m => walk_at "subRn1"))
  | ((with_reducible refine' Sub.oSomeE ?e ?m); (case e => (with_reducible assumption)); (case m => walk_at "subRn1"))
  | ((with_reducible refine' Sub.oTt ?t ?m); (case t => walk_at "fr0"); (case m => walk_at "subRn1")))
open PySem L2 Toy in
local macro_rules | `(tactic| walk_at "subRn") => `(tactic| ((try simp only [List.cons_append, List.nil_append]); walk_at "subRn1"))
namespace Toy
open PySem L2 PyProof.Rows
def D_FORMS : List (Str × Str) := [("add", "three"), ("sub", "three"), ("mul", "three"), ("div", "three"), ("and", "three"), ("or", "three"), ("xor", "three"), ("shl", "three"), ("shr", "three"), ("low", "three"), ("eq", "three"), ("addi", "near"), ("ld", "near"), ("st", "near"), ("jr", "near"), ("lim", "byte"), ("lhi", "byte"), ("bz", "far"), ("bnz", "far"), ("jal", "far"), ("sys", "call"), ("rdc", "control"), ("wrc", "control"), ("ret", "bare"), ("halt", "bare"), ("nop", "bare")]
def D_SHAPES : List (Str × (Int × Int × Int × Int)) := [("three", ((3 : Int), (0 : Int), (0 : Int), (0 : Int))), ("near", ((2 : Int), (5 : Int), (-16 : Int), (15 : Int))), ("byte", ((1 : Int), (8 : Int), (0 : Int), (255 : Int))), ("far", ((1 : Int), (8 : Int), (-128 : Int), (127 : Int))), ("call", ((0 : Int), (8 : Int), (0 : Int), (255 : Int))), ("control", ((1 : Int), (8 : Int), (0 : Int), (7 : Int))), ("bare", ((0 : Int), (0 : Int), (0 : Int), (0 : Int)))]
theorem c_ixQ_SHAPES {K : PySem.W.Frag} {w : World} {L : List HA} {Q : VK} {d : Addr} {s : Str} {k : (Int × Int × Int × Int) → Prop} (hm : obx (dlk D_SHAPES s) k) (t : KTabQ K w (fun v : Int × Int × Int × Int => [V.int v.1, V.int v.2.1, V.int v.2.2.1, V.int v.2.2.2]) d D_SHAPES) (q : ∀ x, k x → ∀ c, Ent (tq K c [V.int x.1, V.int x.2.1, V.int x.2.2.1, V.int x.2.2.2] :: L) (Q (.ref c))) : Ent L fun H => rIxD K w (.ref d) (.str s) H Q := c_ixDQ hm t q
def top (i : Nat) : Stmt := PySem.Challenge.pw_orderlycore_k18_whole_listing.main.body.getD i (.Pass ⟨0, 0, 0, 0⟩)
abbrev s_CoreError___init__ : Stmt := inClass (top 1) 0
theorem sc_CoreError___init__ : FnScope ["self", "value"] ["self", "value"] (defScope s_CoreError___init__) := ⟨rfl, rfl, rfl, by decide +kernel, rfl, by decide +kernel, by decide +kernel⟩
abbrev s_is_integer : Stmt := top 5
theorem sc_is_integer : FnScope ["value"] ["value"] (defScope s_is_integer) := ⟨rfl, rfl, rfl, by decide +kernel, rfl, by decide +kernel, by decide +kernel⟩
abbrev s_is_count : Stmt := top 6
theorem sc_is_count : FnScope ["value"] ["value"] (defScope s_is_count) := ⟨rfl, rfl, rfl, by decide +kernel, rfl, by decide +kernel, by decide +kernel⟩
abbrev s_is_instruction_value : Stmt := top 11
theorem sc_is_instruction_value : FnScope ["value", "registers", "wide", "least", "most", "one"] ["value"] (defScope s_is_instruction_value) := ⟨rfl, rfl, rfl, by decide +kernel, rfl, by decide +kernel, by decide +kernel⟩
abbrev s_want_instruction : Stmt := top 12
theorem sc_want_instruction : FnScope ["value"] ["value"] (defScope s_want_instruction) := ⟨rfl, rfl, rfl, by decide +kernel, rfl, by decide +kernel, by decide +kernel⟩
abbrev s_listing_text : Stmt := top 16
theorem sc_listing_text : FnScope ["instruction", "registers", "words", "one", "number"] ["instruction"] (defScope s_listing_text) := ⟨rfl, rfl, rfl, by decide +kernel, rfl, by decide +kernel, by decide +kernel⟩
abbrev s_register_in : Stmt := top 17
theorem sc_register_in : FnScope ["word"] ["word"] (defScope s_register_in) := ⟨rfl, rfl, rfl, by decide +kernel, rfl, by decide +kernel, by decide +kernel⟩
abbrev s_integer_in : Stmt := top 18
theorem sc_integer_in : FnScope ["word", "told", "sign"] ["word"] (defScope s_integer_in) := ⟨rfl, rfl, rfl, by decide +kernel, rfl, by decide +kernel, by decide +kernel⟩
abbrev s_listing_instruction : Stmt := top 19
theorem sc_listing_instruction : FnScope ["text", "words", "registers", "found", "word"] ["text"] (defScope s_listing_instruction) := ⟨rfl, rfl, rfl, by decide +kernel, rfl, by decide +kernel, by decide +kernel⟩
abbrev s_text_of : Stmt := top 20
theorem sc_text_of : FnScope ["instruction"] ["instruction"] (defScope s_text_of) := ⟨rfl, rfl, rfl, by decide +kernel, rfl, by decide +kernel, by decide +kernel⟩
abbrev s_instruction_of : Stmt := top 21
theorem sc_instruction_of : FnScope ["text", "found"] ["text"] (defScope s_instruction_of) := ⟨rfl, rfl, rfl, by decide +kernel, rfl, by decide +kernel, by decide +kernel⟩
abbrev s__law_pot : Stmt := top 23
theorem sc__law_pot : FnScope ["_law_script", "_law_k", "_law_cell"] ["_law_script", "_law_k"] (defScope s__law_pot) := ⟨rfl, rfl, rfl, by decide +kernel, rfl, by decide +kernel, by decide +kernel⟩
abbrev s__law_draw : Stmt := top 24
theorem sc__law_draw : FnScope ["_law_pot_here", "_law_size", "_law_digit"] ["_law_pot_here", "_law_size"] (defScope s__law_draw) := ⟨rfl, rfl, rfl, by decide +kernel, rfl, by decide +kernel, by decide +kernel⟩
abbrev s__law_pick : Stmt := top 25
theorem sc__law_pick : FnScope ["_law_pot_here", "_law_some"] ["_law_pot_here", "_law_some"] (defScope s__law_pick) := ⟨rfl, rfl, rfl, by decide +kernel, rfl, by decide +kernel, by decide +kernel⟩
abbrev s__law_names : Stmt := top 26
theorem sc__law_names : FnScope ["_law_first"] [] (defScope s__law_names) := ⟨rfl, rfl, rfl, by decide +kernel, rfl, by decide +kernel, by decide +kernel⟩
abbrev s__law_form : Stmt := top 27
theorem sc__law_form : FnScope ["_law_name", "_law_at", "_law_forms", "_law_most", "_law_form_here"] ["_law_name"] (defScope s__law_form) := ⟨rfl, rfl, rfl, by decide +kernel, rfl, by decide +kernel, by decide +kernel⟩
abbrev s__law_shape : Stmt := top 28
theorem sc__law_shape : FnScope ["_law_form_here"] ["_law_form_here"] (defScope s__law_shape) := ⟨rfl, rfl, rfl, by decide +kernel, rfl, by decide +kernel, by decide +kernel⟩
abbrev s__law_drawn : Stmt := top 29
theorem sc__law_drawn : FnScope ["_law_pot_here", "_law_name", "_law_registers", "_law_least", "_law_most", "_law_parts", "_law_turn", "_law_number_here"] ["_law_pot_here"] (defScope s__law_drawn) := ⟨rfl, rfl, rfl, by decide +kernel, rfl, by decide +kernel, by decide +kernel⟩
abbrev s__law_text : Stmt := top 30
theorem sc__law_text : FnScope ["_law_told", "_law_registers", "_law_least", "_law_most", "_law_words", "_law_one"] ["_law_told"] (defScope s__law_text) := ⟨rfl, rfl, rfl, by decide +kernel, rfl, by decide +kernel, by decide +kernel⟩
abbrev s__law_number : Stmt := top 31
theorem sc__law_number : FnScope ["_law_word", "_law_digits", "_law_sign"] ["_law_word"] (defScope s__law_number) := ⟨rfl, rfl, rfl, by decide +kernel, rfl, by decide +kernel, by decide +kernel⟩
abbrev s__law_read : Stmt := top 32
theorem sc__law_read : FnScope ["_law_text_here", "_law_words", "_law_registers", "_law_least", "_law_most", "_law_parts", "_law_word", "_law_number_here"] ["_law_text_here"] (defScope s__law_read) := ⟨rfl, rfl, rfl, by decide +kernel, rfl, by decide +kernel, by decide +kernel⟩
abbrev s__law_heard : Stmt := top 33
theorem sc__law_heard : FnScope ["_law_text_here", "_law_told"] ["_law_text_here"] (defScope s__law_heard) := ⟨rfl, rfl, rfl, by decide +kernel, rfl, by decide +kernel, by decide +kernel⟩
abbrev s__law_bent : Stmt := top 34
theorem sc__law_bent : FnScope ["_law_pot_here", "_law_text_here", "_law_at", "_law_way"] ["_law_pot_here", "_law_text_here"] (defScope s__law_bent) := ⟨rfl, rfl, rfl, by decide +kernel, rfl, by decide +kernel, by decide +kernel⟩
abbrev s_law : Stmt := top 35
theorem sc_law : FnScope ["_law_script", "_law_pot_here", "_law_turn", "_law_told", "_law_text_here", "_law_more"] ["_law_script"] (defScope s_law) := ⟨rfl, rfl, rfl, by decide +kernel, rfl, by decide +kernel, by decide +kernel⟩
structure Ad where
  f_CoreError___init__ : Addr
  d_CoreError___init__ : FuncData
  f_is_integer : Addr
  d_is_integer : FuncData
  f_is_count : Addr
  d_is_count : FuncData
  f_is_instruction_value : Addr
  d_is_instruction_value : FuncData
  f_want_instruction : Addr
  d_want_instruction : FuncData
  f_listing_text : Addr
  d_listing_text : FuncData
  f_register_in : Addr
  d_register_in : FuncData
  f_integer_in : Addr
  d_integer_in : FuncData
  f_listing_instruction : Addr
  d_listing_instruction : FuncData
  f_text_of : Addr
  d_text_of : FuncData
  f_instruction_of : Addr
  d_instruction_of : FuncData
  f__law_pot : Addr
  d__law_pot : FuncData
  f__law_draw : Addr
  d__law_draw : FuncData
  f__law_pick : Addr
  d__law_pick : FuncData
  f__law_names : Addr
  d__law_names : FuncData
  f__law_form : Addr
  d__law_form : FuncData
  f__law_shape : Addr
  d__law_shape : FuncData
  f__law_drawn : Addr
  d__law_drawn : FuncData
  f__law_text : Addr
  d__law_text : FuncData
  f__law_number : Addr
  d__law_number : FuncData
  f__law_read : Addr
  d__law_read : FuncData
  f__law_heard : Addr
  d__law_heard : FuncData
  f__law_bent : Addr
  d__law_bent : FuncData
  f_law : Addr
  d_law : FuncData
  c_CoreError : Addr
  c_InvalidInstruction : Addr
  c_InvalidListing : Addr
  t_FORMS : Addr
  t_SHAPES : Addr
  t_MOST_REGISTER : Tok
  t_FIGURES : Tok
  t_MOST_FIGURES : Tok
structure Txt (w : World) (K : PySem.W.Frag) (mg : Str → Option Value) (a : Ad) : Prop where
  g_CoreError : mg "CoreError" = some (.ref a.c_CoreError)
  x_CoreError : OexC K a.c_CoreError
  xi_CoreError : PySem.W.findIn K (.ref a.c_CoreError) "__init__" = some (some (.ref a.f_CoreError___init__))
  xn_CoreError_value : PySem.W.findIn K (.ref a.c_CoreError) "value" = some none
  g_InvalidInstruction : mg "InvalidInstruction" = some (.ref a.c_InvalidInstruction)
  x_InvalidInstruction : OexC K a.c_InvalidInstruction
  xi_InvalidInstruction : PySem.W.findIn K (.ref a.c_InvalidInstruction) "__init__" = some (some (.ref a.f_CoreError___init__))
  xn_InvalidInstruction_value : PySem.W.findIn K (.ref a.c_InvalidInstruction) "value" = some none
  g_InvalidListing : mg "InvalidListing" = some (.ref a.c_InvalidListing)
  x_InvalidListing : OexC K a.c_InvalidListing
  xi_InvalidListing : PySem.W.findIn K (.ref a.c_InvalidListing) "__init__" = some (some (.ref a.f_CoreError___init__))
  xn_InvalidListing_value : PySem.W.findIn K (.ref a.c_InvalidListing) "value" = some none
  xe_InvalidListing : PySem.W.exmOne K (.ref a.c_InvalidListing) (.ref a.c_InvalidListing) = some true
  F_CoreError___init__ : Fun K "__init__" "CoreError.__init__" s_CoreError___init__ a.f_CoreError___init__ a.d_CoreError___init__
  b_CoreError___init__ : Binds K a.d_CoreError___init__ ["self", "value"] []
  xt_CoreError___init__ : PySem.W.typeIn K (.ref a.f_CoreError___init__) = some (.type "function")
  m_is_integer : mg "is_integer" = some (.ref a.f_is_integer)
  F_is_integer : Fun K "is_integer" "is_integer" s_is_integer a.f_is_integer a.d_is_integer
  b_is_integer : Binds K a.d_is_integer ["value"] []
  m_is_count : mg "is_count" = some (.ref a.f_is_count)
  F_is_count : Fun K "is_count" "is_count" s_is_count a.f_is_count a.d_is_count
  b_is_count : Binds K a.d_is_count ["value"] []
  m_is_instruction_value : mg "is_instruction_value" = some (.ref a.f_is_instruction_value)
  F_is_instruction_value : Fun K "is_instruction_value" "is_instruction_value" s_is_instruction_value a.f_is_instruction_value a.d_is_instruction_value
  b_is_instruction_value : Binds K a.d_is_instruction_value ["value"] []
  m_want_instruction : mg "want_instruction" = some (.ref a.f_want_instruction)
  F_want_instruction : Fun K "want_instruction" "want_instruction" s_want_instruction a.f_want_instruction a.d_want_instruction
  b_want_instruction : Binds K a.d_want_instruction ["value"] []
  m_listing_text : mg "listing_text" = some (.ref a.f_listing_text)
  F_listing_text : Fun K "listing_text" "listing_text" s_listing_text a.f_listing_text a.d_listing_text
  b_listing_text : Binds K a.d_listing_text ["instruction"] []
  m_register_in : mg "register_in" = some (.ref a.f_register_in)
  F_register_in : Fun K "register_in" "register_in" s_register_in a.f_register_in a.d_register_in
  b_register_in : Binds K a.d_register_in ["word"] []
  m_integer_in : mg "integer_in" = some (.ref a.f_integer_in)
  F_integer_in : Fun K "integer_in" "integer_in" s_integer_in a.f_integer_in a.d_integer_in
  b_integer_in : Binds K a.d_integer_in ["word"] []
  m_listing_instruction : mg "listing_instruction" = some (.ref a.f_listing_instruction)
  F_listing_instruction : Fun K "listing_instruction" "listing_instruction" s_listing_instruction a.f_listing_instruction a.d_listing_instruction
  b_listing_instruction : Binds K a.d_listing_instruction ["text"] []
  m_text_of : mg "text_of" = some (.ref a.f_text_of)
  F_text_of : Fun K "text_of" "text_of" s_text_of a.f_text_of a.d_text_of
  b_text_of : Binds K a.d_text_of ["instruction"] []
  m_instruction_of : mg "instruction_of" = some (.ref a.f_instruction_of)
  F_instruction_of : Fun K "instruction_of" "instruction_of" s_instruction_of a.f_instruction_of a.d_instruction_of
  b_instruction_of : Binds K a.d_instruction_of ["text"] []
  m__law_pot : mg "_law_pot" = some (.ref a.f__law_pot)
  F__law_pot : Fun K "_law_pot" "_law_pot" s__law_pot a.f__law_pot a.d__law_pot
  b__law_pot : Binds K a.d__law_pot ["_law_script", "_law_k"] []
  m__law_draw : mg "_law_draw" = some (.ref a.f__law_draw)
  F__law_draw : Fun K "_law_draw" "_law_draw" s__law_draw a.f__law_draw a.d__law_draw
  b__law_draw : Binds K a.d__law_draw ["_law_pot_here", "_law_size"] []
  m__law_pick : mg "_law_pick" = some (.ref a.f__law_pick)
  F__law_pick : Fun K "_law_pick" "_law_pick" s__law_pick a.f__law_pick a.d__law_pick
  b__law_pick : Binds K a.d__law_pick ["_law_pot_here", "_law_some"] []
  m__law_names : mg "_law_names" = some (.ref a.f__law_names)
  F__law_names : Fun K "_law_names" "_law_names" s__law_names a.f__law_names a.d__law_names
  b__law_names : Binds K a.d__law_names [] []
  m__law_form : mg "_law_form" = some (.ref a.f__law_form)
  F__law_form : Fun K "_law_form" "_law_form" s__law_form a.f__law_form a.d__law_form
  b__law_form : Binds K a.d__law_form ["_law_name"] []
  m__law_shape : mg "_law_shape" = some (.ref a.f__law_shape)
  F__law_shape : Fun K "_law_shape" "_law_shape" s__law_shape a.f__law_shape a.d__law_shape
  b__law_shape : Binds K a.d__law_shape ["_law_form_here"] []
  m__law_drawn : mg "_law_drawn" = some (.ref a.f__law_drawn)
  F__law_drawn : Fun K "_law_drawn" "_law_drawn" s__law_drawn a.f__law_drawn a.d__law_drawn
  b__law_drawn : Binds K a.d__law_drawn ["_law_pot_here"] []
  m__law_text : mg "_law_text" = some (.ref a.f__law_text)
  F__law_text : Fun K "_law_text" "_law_text" s__law_text a.f__law_text a.d__law_text
  b__law_text : Binds K a.d__law_text ["_law_told"] []
  m__law_number : mg "_law_number" = some (.ref a.f__law_number)
  F__law_number : Fun K "_law_number" "_law_number" s__law_number a.f__law_number a.d__law_number
  b__law_number : Binds K a.d__law_number ["_law_word"] []
  m__law_read : mg "_law_read" = some (.ref a.f__law_read)
  F__law_read : Fun K "_law_read" "_law_read" s__law_read a.f__law_read a.d__law_read
  b__law_read : Binds K a.d__law_read ["_law_text_here"] []
  m__law_heard : mg "_law_heard" = some (.ref a.f__law_heard)
  F__law_heard : Fun K "_law_heard" "_law_heard" s__law_heard a.f__law_heard a.d__law_heard
  b__law_heard : Binds K a.d__law_heard ["_law_text_here"] []
  m__law_bent : mg "_law_bent" = some (.ref a.f__law_bent)
  F__law_bent : Fun K "_law_bent" "_law_bent" s__law_bent a.f__law_bent a.d__law_bent
  b__law_bent : Binds K a.d__law_bent ["_law_pot_here", "_law_text_here"] []
  m_law : mg "law" = some (.ref a.f_law)
  F_law : Fun K "law" "law" s_law a.f_law a.d_law
  b_law : Binds K a.d_law ["_law_script"] []
  kb_instruction_of_0_text : KBn K a.d_instruction_of ["text"] 0 ["text"] (fun us ws => [ws.getD 0 PySem.Value.none]) (fun us ws => [ws.getD 0 V.non])
  kb_text_of_0_instruction : KBn K a.d_text_of ["instruction"] 0 ["instruction"] (fun us ws => [ws.getD 0 PySem.Value.none]) (fun us ws => [ws.getD 0 V.non])
  z_abs : mg "abs" = none
  z_all : mg "all" = none
  z_bool : mg "bool" = none
  z_divmod : mg "divmod" = none
  z_int : mg "int" = none
  z_isinstance : mg "isinstance" = none
  z_len : mg "len" = none
  z_max : mg "max" = none
  z_range : mg "range" = none
  z_repr : mg "repr" = none
  z_str : mg "str" = none
  z_tuple : mg "tuple" = none
  v_FORMS : mg "FORMS" = some (.ref a.t_FORMS)
  kt_FORMS : KTab K w a.t_FORMS (D_FORMS.map fun p => (p.1, V.str p.2))
  kd_FORMS : KDc K w a.t_FORMS V.str D_FORMS
  v_SHAPES : mg "SHAPES" = some (.ref a.t_SHAPES)
  kq_SHAPES : KTabQ K w (fun v : Int × Int × Int × Int => [V.int v.1, V.int v.2.1, V.int v.2.2.1, V.int v.2.2.2]) a.t_SHAPES D_SHAPES
  v_MOST_REGISTER : mg "MOST_REGISTER" = some (.int 7 a.t_MOST_REGISTER)
  v_FIGURES : mg "FIGURES" = some (.str "0123456789" a.t_FIGURES)
  v_MOST_FIGURES : mg "MOST_FIGURES" = some (.int 3 a.t_MOST_FIGURES)
local macro_rules | `(tactic| walk_at "cls") => `(tactic| first | assumption)
local macro_rules | `(tactic| walk_at "nat") => `(tactic| first | assumption)
def sp_law (K : PySem.W.Frag) : Sp := fun vs H Q _ => ∃ (a : Addr) (ns : List Int), vs = [.ref a] ∧ SqL K H a (ns.map V.int) ∧ ns.length ≤ 63 ∧ ∀ H', Q (.bl true) H'






def m_is_integer__V_o (value : (Option (Str ⊕ Int))) (k : Bool → Prop) : Prop :=
  (if (oInt value) = true then
  k (!false)
  else
  k false)

def m_is_count__V_o (value : (Option (Str ⊕ Int))) (k : Bool → Prop) : Prop :=
  m_is_integer__V_o value fun r1 =>
  (if r1 = true then
  obg value fun w2 =>
  obu1 w2 fun w3 =>
  k (decide ((0 : Int) ≤ w3))
  else
  k false)

def m_is_instruction_value (value : (List (Str ⊕ Int))) (k : Bool → Prop) : Prop :=
  (if (value.length : Int) = (0 : Int) then
  k false
  else
  obx (atI value (0 : Int)) fun w1 =>
  (if w1.isLeft = true then
  obx (atI value (0 : Int)) fun w2 =>
  obu0 w2 fun w3 =>
  (if (dlk D_FORMS w3).isSome = true then
  obx (atI value (0 : Int)) fun w4 =>
  obu0 w4 fun w5 =>
  obx (dlk D_FORMS w5) fun w6 =>
  obx (dlk D_SHAPES w6) fun w7 =>
  (if (value.length : Int) = (((1 : Int) + w7.1) + (if (decide ((0 : Int) < w7.2.1)) = true then (1 : Int) else (0 : Int))) then
  grd ((cutA value (some (1 : Int)) (some ((1 : Int) + w7.1))).length ≤ 100000) <| lcL (cutA value (some (1 : Int)) (some ((1 : Int) + w7.1))) [] (fun x8 nx9 =>
  obu1 x8 fun w11 =>
  (if 0 ≤ w11 then
  obu1 x8 fun w12 =>
  nx9 (some (decide (w12 ≤ (7 : Int))))
  else
  nx9 (some false))) fun ys10 =>
  (if (ys10.all id) = true then
  (if w7.2.1 = (0 : Int) then
  k true
  else
  obx (atI value (-(1 : Int))) fun w13 =>
  obu1 w13 fun w14 =>
  obx (atI value (-(1 : Int))) fun w15 =>
  obu1 w15 fun w16 =>
  (if w7.2.2.1 ≤ w16 then
  k (decide (w16 ≤ w7.2.2.2))
  else
  k false))
  else
  k false)
  else
  k false)
  else
  k false)
  else
  k false))

def m_is_instruction_value__V_o (value : (List (Option (Str ⊕ Int)))) (k : Bool → Prop) : Prop :=
  (if (value.length : Int) = (0 : Int) then
  k false
  else
  obx (atI value (0 : Int)) fun w1 =>
  (if (oStr w1) = true then
  obx (atI value (0 : Int)) fun w2 =>
  obg w2 fun w3 =>
  obu0 w3 fun w4 =>
  (if (dlk D_FORMS w4).isSome = true then
  obx (atI value (0 : Int)) fun w5 =>
  obg w5 fun w6 =>
  obu0 w6 fun w7 =>
  obx (dlk D_FORMS w7) fun w8 =>
  obx (dlk D_SHAPES w8) fun w9 =>
  (if (value.length : Int) = (((1 : Int) + w9.1) + (if (decide ((0 : Int) < w9.2.1)) = true then (1 : Int) else (0 : Int))) then
  grd ((cutA value (some (1 : Int)) (some ((1 : Int) + w9.1))).length ≤ 100000) <| lcL (cutA value (some (1 : Int)) (some ((1 : Int) + w9.1))) [] (fun x10 nx11 =>
  m_is_count__V_o x10 fun r13 =>
  (if r13 = true then
  obg x10 fun w14 =>
  obu1 w14 fun w15 =>
  nx11 (some (decide (w15 ≤ (7 : Int))))
  else
  nx11 (some false))) fun ys12 =>
  (if (ys12.all id) = true then
  (if w9.2.1 = (0 : Int) then
  k true
  else
  obx (atI value (-(1 : Int))) fun w16 =>
  m_is_integer__V_o w16 fun r17 =>
  (if r17 = true then
  obx (atI value (-(1 : Int))) fun w18 =>
  obg w18 fun w19 =>
  obu1 w19 fun w20 =>
  (if w9.2.2.1 ≤ w20 then
  k (decide (w20 ≤ w9.2.2.2))
  else
  k false)
  else
  k false))
  else
  k false)
  else
  k false)
  else
  k false)
  else
  k false))

def m_want_instruction (value : (List (Str ⊕ Int))) (k : (List (Str ⊕ Int)) → Prop) : Prop :=
  m_is_instruction_value value fun r1 =>
  (if r1 = true then
  k value
  else
  False)

def m_listing_text (instruction : (List (Str ⊕ Int))) (k : Str → Prop) : Prop :=
  obx (atI instruction (0 : Int)) fun w1 =>
  obu0 w1 fun w2 =>
  obx (dlk D_FORMS w2) fun w3 =>
  obx (dlk D_SHAPES w3) fun w4 =>
  obx (atI instruction (0 : Int)) fun w5 =>
  obu0 w5 fun w6 =>
  grd ((cutA instruction (some (1 : Int)) (some ((1 : Int) + w4.1))).length ≤ 100000) <| lcL (cutA instruction (some (1 : Int)) (some ((1 : Int) + w4.1))) [] (fun x7 nx8 =>
  obu1 x7 fun w10 =>
  grd (w10.natAbs < 10 ^ 15) <|
  grd (tOk (("r" : Str) ++ (toString w10 : Str))) <|
  nx8 (some (("r" : Str) ++ (toString w10 : Str)))) fun ys9 =>
  grd (([w6] : (List Str)).length + ys9.length ≤ 100000) <|
  grd ((cutA instruction (some ((1 : Int) + w4.1)) none).length ≤ 100000) <| lcL (cutA instruction (some ((1 : Int) + w4.1)) none) [] (fun x11 nx12 =>
  obu1 x11 fun w14 =>
  grd (w14.natAbs < 10 ^ 15) <|
  grd (tOk (toString w14 : Str)) <|
  nx12 (some (toString w14 : Str))) fun ys13 =>
  grd ((([w6] : (List Str)) ++ ys9).length + ys13.length ≤ 100000) <|
  grd ((((([w6] : (List Str)) ++ ys9) ++ ys13).map (·.length)).sum + ((([w6] : (List Str)) ++ ys9) ++ ys13).length ≤ 1000000) <|
  k (Txt.join (" " : Str) ((([w6] : (List Str)) ++ ys9) ++ ys13))

def m_register_in (word : Str) (k : (Option (Str ⊕ Int)) → Prop) : Prop :=
  grd (word.length ≤ 100000) <|
  (if (word.length : Int) = (2 : Int) then
  grd (word.length ≤ 100000) <|
  obx (atI word.cps.toList (0 : Int)) fun c1 =>
  (if (sg c1) = ("r" : Str) then
  grd (word.length ≤ 100000) <|
  obx (atI word.cps.toList (1 : Int)) fun c2 =>
  (if c2 ∈ ("0123456789" : Str).cps.toList then
  grd (word.length ≤ 100000) <|
  obx (atI word.cps.toList (1 : Int)) fun c3 =>
  grd ((sg c3).length ≤ 640) <|
  obx (PySem.intText? (sg c3)) fun n4 =>
  (if (7 : Int) < n4 then
  k none
  else
  grd (word.length ≤ 100000) <|
  obx (atI word.cps.toList (1 : Int)) fun c5 =>
  grd ((sg c5).length ≤ 640) <|
  obx (PySem.intText? (sg c5)) fun n6 =>
  k (some (.inr n6)))
  else
  k none)
  else
  k none)
  else
  k none)

def m_integer_in (word : Str) (k : (Option (Str ⊕ Int)) → Prop) : Prop :=
  jn (fun (r1 : Str) =>
  grd (r1.length ≤ 100000) <|
  (if (1 : Int) ≤ (r1.length : Int) then
  (if (r1.length : Int) ≤ (3 : Int) then
  grd (r1.cps.toList.length ≤ 100000) <| lcL r1.cps.toList [] (fun x3 nx4 =>
  nx4 (some (decide (x3 ∈ ("0123456789" : Str).cps.toList)))) fun ys5 =>
  (if (ys5.all id) = true then
  jn (fun (c6 : Bool) =>
  (if c6 = true then
  k none
  else
  grd (word.length ≤ 640) <|
  obx (PySem.intText? word) fun n8 =>
  k (some (.inr n8)))) fun jp7 =>
  grd (r1.length ≤ 100000) <|
  obx (atI r1.cps.toList (0 : Int)) fun c9 =>
  (if (sg c9) = ("0" : Str) then
  jp7 (!(eqb word ("0" : Str)))
  else
  jp7 false)
  else
  k none)
  else
  k none)
  else
  k none)) fun jp2 =>
  grd (word.length ≤ 100000) <|
  (if (cutS word none (some (1 : Int))) = ("-" : Str) then
  grd (word.length ≤ 100000) <|
  jp2 (cutS word (some (1 : Int)) none)
  else
  jp2 word)

def m_listing_instruction (text : Str) (k : (Option (List (Option (Str ⊕ Int)))) → Prop) : Prop :=
  grd (text.length ≤ 100000 ∧ tOk text) <|
  obx (atI (Txt.split text (" " : Str)) (0 : Int)) fun w1 =>
  (if (dlk D_FORMS w1).isSome = true then
  obx (atI (Txt.split text (" " : Str)) (0 : Int)) fun w2 =>
  obx (dlk D_FORMS w2) fun w3 =>
  obx (dlk D_SHAPES w3) fun w4 =>
  obx (atI (Txt.split text (" " : Str)) (0 : Int)) fun w5 =>
  grd ((cutA (Txt.split text (" " : Str)) (some (1 : Int)) (some ((1 : Int) + w4.1))).length ≤ 100000) <| lcL (cutA (Txt.split text (" " : Str)) (some (1 : Int)) (some ((1 : Int) + w4.1))) [] (fun x6 nx7 =>
  m_register_in x6 fun r9 =>
  nx7 (some r9)) fun ys8 =>
  grd (([(some (.inl w5))] : (List (Option (Str ⊕ Int)))).length + ys8.length ≤ 100000) <|
  grd ((cutA (Txt.split text (" " : Str)) (some ((1 : Int) + w4.1)) none).length ≤ 100000) <| lcL (cutA (Txt.split text (" " : Str)) (some ((1 : Int) + w4.1)) none) [] (fun x10 nx11 =>
  m_integer_in x10 fun r13 =>
  nx11 (some r13)) fun ys12 =>
  grd ((([(some (.inl w5))] : (List (Option (Str ⊕ Int)))) ++ ys8).length + ys12.length ≤ 100000) <|
  m_is_instruction_value__V_o ((([(some (.inl w5))] : (List (Option (Str ⊕ Int)))) ++ ys8) ++ ys12) fun r14 =>
  (if r14 = true then
  k (some ((([(some (.inl w5))] : (List (Option (Str ⊕ Int)))) ++ ys8) ++ ys12))
  else
  k none)
  else
  k none)

def m_text_of (instruction : (List (Str ⊕ Int))) (k : Str → Prop) : Prop :=
  m_want_instruction instruction fun r1 =>
  m_listing_text r1 fun r2 =>
  k r2

def m_instruction_of (text : Str) (k : (List (Option (Str ⊕ Int))) → Prop) (xr : Prop) : Prop :=
  m_listing_instruction text fun r1 =>
  (if r1.isNone = true then
  xr
  else
  obg r1 fun w2 =>
  k w2)

def m__law_names  (k : (List Str) → Prop) : Prop :=
  grd (([("add" : Str), ("sub" : Str), ("mul" : Str), ("div" : Str), ("and" : Str), ("or" : Str), ("xor" : Str), ("shl" : Str), ("shr" : Str), ("low" : Str), ("eq" : Str), ("addi" : Str), ("ld" : Str)] : (List Str)).length + ([("st" : Str), ("jr" : Str), ("lim" : Str), ("lhi" : Str), ("bz" : Str), ("bnz" : Str), ("jal" : Str), ("sys" : Str), ("rdc" : Str), ("wrc" : Str), ("ret" : Str), ("halt" : Str), ("nop" : Str)] : (List Str)).length ≤ 100000) <|
  k (([("add" : Str), ("sub" : Str), ("mul" : Str), ("div" : Str), ("and" : Str), ("or" : Str), ("xor" : Str), ("shl" : Str), ("shr" : Str), ("low" : Str), ("eq" : Str), ("addi" : Str), ("ld" : Str)] : (List Str)) ++ ([("st" : Str), ("jr" : Str), ("lim" : Str), ("lhi" : Str), ("bz" : Str), ("bnz" : Str), ("jal" : Str), ("sys" : Str), ("rdc" : Str), ("wrc" : Str), ("ret" : Str), ("halt" : Str), ("nop" : Str)] : (List Str)))

def m__law_form (name : Str) (k : Str → Prop) : Prop :=
  m__law_names  fun r1 =>
  obx (ixof r1 name) fun i2 =>
  grd (([((11 : Int), ("three" : Str)), ((15 : Int), ("near" : Str)), ((17 : Int), ("byte" : Str)), ((20 : Int), ("far" : Str)), ((21 : Int), ("call" : Str)), ((23 : Int), ("control" : Str)), ((26 : Int), ("bare" : Str))] : (List (Int × Str))).length ≤ 100000) <| lcL ([((11 : Int), ("three" : Str)), ((15 : Int), ("near" : Str)), ((17 : Int), ("byte" : Str)), ((20 : Int), ("far" : Str)), ((21 : Int), ("call" : Str)), ((23 : Int), ("control" : Str)), ((26 : Int), ("bare" : Str))] : (List (Int × Str))) [] (fun x3 nx4 =>
  (if (i2 : Int) < x3.1 then
  nx4 (some x3.2)
  else
  nx4 none)) fun ys5 =>
  obx (atI ys5 (0 : Int)) fun w6 =>
  k w6

def m__law_shape (form_here : Str) (k : (Int × (Option Int) × (Option Int)) → Prop) : Prop :=
  (if form_here = ("three" : Str) then
  k ((3 : Int), none, none)
  else
  (if form_here = ("near" : Str) then
  k ((2 : Int), (some (-(16 : Int))), (some (15 : Int)))
  else
  (if form_here = ("bare" : Str) then
  k ((0 : Int), none, none)
  else
  (if form_here = ("far" : Str) then
  k ((1 : Int), (some (-(128 : Int))), (some (127 : Int)))
  else
  jn (fun (r1 : Int) =>
  jn (fun (r3 : (Option Int)) =>
  k (r1, (some (0 : Int)), r3)) fun jp4 =>
  (if form_here = ("control" : Str) then
  jp4 (some (7 : Int))
  else
  jp4 (some (255 : Int)))) fun jp2 =>
  (if form_here = ("call" : Str) then
  jp2 (0 : Int)
  else
  jp2 (1 : Int))))))

def m__law_drawn  (k : (List (Str ⊕ Int)) → Prop) : Prop :=
  m__law_names  fun r1 =>
  pck r1 fun p2 =>
  m__law_form p2 fun r3 =>
  m__law_shape r3 fun r4 =>
  grd (-100000000 ≤ r4.1 ∧ r4.1 < 100000000) <| forL (rgI 0 r4.1.toNat) ([] : (List Int)) (fun x5 (m6 : (List Int)) nx7 bk8 =>
  drw (8 : Int) fun d10 =>
  grd (m6.length ≤ 100000) <|
  nx7 (m6 ++ [d10])) fun (m9 : (List Int)) =>
  jn (fun (m11 : (List Int)) =>
  grd (([(.inl p2)] : (List (Str ⊕ Int))).length + (m11.map .inr : (List (Str ⊕ Int))).length ≤ 100000) <|
  k (([(.inl p2)] : (List (Str ⊕ Int))) ++ (m11.map .inr : (List (Str ⊕ Int))))) fun jp12 =>
  (if r4.2.1.isNone = true then
  jp12 m9
  else
  obg r4.2.1 fun w13 =>
  obg r4.2.2 fun w14 =>
  obg r4.2.1 fun w15 =>
  drw ((w14 - w15) + (1 : Int)) fun d16 =>
  pck ([(some (w13 + d16)), (some (w13 + d16)), r4.2.1, r4.2.2] : (List (Option Int))) fun p17 =>
  obg p17 fun w18 =>
  grd (m9.length ≤ 100000) <|
  jp12 (m9 ++ [w18]))

def m__law_text (told : (List (Str ⊕ Int))) (k : Str → Prop) : Prop :=
  obx (atI told (0 : Int)) fun w1 =>
  obu0 w1 fun w2 =>
  m__law_form w2 fun r3 =>
  m__law_shape r3 fun r4 =>
  obx (atI told (0 : Int)) fun w5 =>
  obu0 w5 fun w6 =>
  grd ((cutA told (some (1 : Int)) (some ((1 : Int) + r4.1))).length ≤ 100000) <| lcL (cutA told (some (1 : Int)) (some ((1 : Int) + r4.1))) [] (fun x7 nx8 =>
  obu1 x7 fun w10 =>
  grd (w10.natAbs < 10 ^ 15) <|
  grd (("r" : Str).length + (toString w10 : Str).length ≤ 1000000) <|
  grd (tOk (("r" : Str) ++ (toString w10 : Str))) <|
  nx8 (some (("r" : Str) ++ (toString w10 : Str)))) fun ys9 =>
  grd (([w6] : (List Str)).length + ys9.length ≤ 100000) <|
  jn (fun (r11 : (List Str)) =>
  grd ((([w6] : (List Str)) ++ ys9).length + r11.length ≤ 100000) <|
  grd ((((([w6] : (List Str)) ++ ys9) ++ r11).map (·.length)).sum + ((([w6] : (List Str)) ++ ys9) ++ r11).length ≤ 1000000) <|
  k (Txt.join (" " : Str) ((([w6] : (List Str)) ++ ys9) ++ r11))) fun jp12 =>
  (if r4.2.1.isNone = true then
  jp12 ([] : (List Str))
  else
  obx (atI told (-(1 : Int))) fun w13 =>
  obu1 w13 fun w14 =>
  grd (w14.natAbs < 10 ^ 15) <|
  grd (tOk (toString w14 : Str)) <|
  jp12 ([(toString w14 : Str)] : (List Str)))

def m__law_number (word : Str) (k : (Option Int) → Prop) : Prop :=
  jn (fun (r1 : Str) =>
  (if r1 = ("" : Str) then
  k none
  else
  grd (r1.cps.toList.length ≤ 100000) <| lcL r1.cps.toList [] (fun x3 nx4 =>
  (if x3 ∈ ("0123456789" : Str).cps.toList then
  nx4 none
  else
  grd (tOk (sg x3)) <|
  nx4 (some (sg x3)))) fun ys5 =>
  (if ys5 = ([] : (List Str)) then
  grd (r1.length ≤ 100000) <|
  (if (4 : Int) < (r1.length : Int) then
  k none
  else
  grd (word.length ≤ 640) <|
  obx (PySem.intText? word) fun n6 =>
  grd (n6.natAbs < 10 ^ 15) <|
  (if (toString n6 : Str) = word then
  grd (word.length ≤ 640) <|
  obx (PySem.intText? word) fun n7 =>
  k (some n7)
  else
  k none))
  else
  k none))) fun jp2 =>
  grd (word.length ≤ 100000) <|
  (if (cutS word none (some (1 : Int))) = ("-" : Str) then
  grd (word.length ≤ 100000) <|
  jp2 (cutS word (some (1 : Int)) none)
  else
  jp2 word)

def m__law_read (text_here : Str) (k : (Option (List (Str ⊕ Int))) → Prop) : Prop :=
  grd (text_here.length ≤ 100000 ∧ tOk text_here) <|
  obx (atI (Txt.split text_here (" " : Str)) (0 : Int)) fun w1 =>
  m__law_names  fun r2 =>
  (if w1 ∈ r2 then
  obx (atI (Txt.split text_here (" " : Str)) (0 : Int)) fun w3 =>
  m__law_form w3 fun r4 =>
  m__law_shape r4 fun r5 =>
  (if ((Txt.split text_here (" " : Str)).length : Int) = (((1 : Int) + r5.1) + (if (!r5.2.1.isNone) = true then (1 : Int) else (0 : Int))) then
  forL (cutA (Txt.split text_here (" " : Str)) (some (1 : Int)) (some ((1 : Int) + r5.1))) ([] : (List Int)) (fun x6 (m7 : (List Int)) nx8 bk9 =>
  grd (x6.length ≤ 100000) <|
  (if (cutS x6 none (some (1 : Int))) = ("r" : Str) then
  grd (x6.length ≤ 100000) <|
  (if (cutS x6 (some (1 : Int)) none) ∈ ([("0" : Str), ("1" : Str), ("2" : Str), ("3" : Str), ("4" : Str), ("5" : Str), ("6" : Str), ("7" : Str)] : (List Str)) then
  grd (x6.length ≤ 100000) <|
  grd ((cutS x6 (some (1 : Int)) none).length ≤ 640) <|
  obx (PySem.intText? (cutS x6 (some (1 : Int)) none)) fun n11 =>
  grd (m7.length ≤ 100000) <|
  nx8 (m7 ++ [n11])
  else
  k none)
  else
  k none)) fun (m10 : (List Int)) =>
  jn (fun (m12 : (List Int)) =>
  obx (atI (Txt.split text_here (" " : Str)) (0 : Int)) fun w14 =>
  grd (([(.inl w14)] : (List (Str ⊕ Int))).length + (m12.map .inr : (List (Str ⊕ Int))).length ≤ 100000) <|
  k (some (([(.inl w14)] : (List (Str ⊕ Int))) ++ (m12.map .inr : (List (Str ⊕ Int)))))) fun jp13 =>
  (if r5.2.1.isNone = true then
  jp13 m10
  else
  obx (atI (Txt.split text_here (" " : Str)) (-(1 : Int))) fun w15 =>
  m__law_number w15 fun r16 =>
  (if r16.isNone = true then
  k none
  else
  obg r5.2.1 fun w17 =>
  obg r16 fun w18 =>
  (if w17 ≤ w18 then
  obg r16 fun w19 =>
  obg r5.2.2 fun w20 =>
  (if w19 ≤ w20 then
  obg r16 fun w21 =>
  grd (m10.length ≤ 100000) <|
  jp13 (m10 ++ [w21])
  else
  k none)
  else
  k none)))
  else
  k none)
  else
  k none)

def m__law_heard (text_here : Str) (k : (Option (List (Option (Str ⊕ Int)))) → Prop) : Prop :=
  jn (fun (m1 : (Option (List (Option (Str ⊕ Int))))) =>
  k m1) fun jp2 =>
  m_instruction_of text_here (fun r3 =>
  jp2 (some r3)) ((jp2 none))

def m__law_bent (text_here : Str) (k : Str → Prop) : Prop :=
  grd (text_here.length ≤ 100000) <|
  drw (text_here.length : Int) fun d1 =>
  drw (3 : Int) fun d2 =>
  (if d2 = (0 : Int) then
  grd (text_here.length ≤ 100000) <|
  grd (text_here.length ≤ 100000) <|
  grd ((cutS text_here none (some d1)).length + (cutS text_here (some (d1 + (1 : Int))) none).length ≤ 1000000) <|
  k ((cutS text_here none (some d1)) ++ (cutS text_here (some (d1 + (1 : Int))) none))
  else
  (if d2 = (1 : Int) then
  grd (text_here.length ≤ 100000) <|
  pck ([("0" : Str), ("1" : Str), ("-" : Str), (" " : Str), ("r" : Str), ("i" : Str), ("x" : Str), ("7" : Str)] : (List Str)) fun p3 =>
  grd ((cutS text_here none (some d1)).length + p3.length ≤ 1000000) <|
  grd (text_here.length ≤ 100000) <|
  grd (((cutS text_here none (some d1)) ++ p3).length + (cutS text_here (some d1) none).length ≤ 1000000) <|
  k (((cutS text_here none (some d1)) ++ p3) ++ (cutS text_here (some d1) none))
  else
  grd (text_here.length ≤ 100000) <|
  pck ([("0" : Str), ("8" : Str), ("-" : Str), (" " : Str), ("r" : Str), ("z" : Str), ("1" : Str)] : (List Str)) fun p4 =>
  grd ((cutS text_here none (some d1)).length + p4.length ≤ 1000000) <|
  grd (text_here.length ≤ 100000) <|
  grd (((cutS text_here none (some d1)) ++ p4).length + (cutS text_here (some (d1 + (1 : Int))) none).length ≤ 1000000) <|
  k (((cutS text_here none (some d1)) ++ p4) ++ (cutS text_here (some (d1 + (1 : Int))) none))))

def m_law (script : (List Int)) (k : Bool → Prop) : Prop :=
  grd (-100000000 ≤ (12 : Int) ∧ (12 : Int) < 100000000) <| forL (rgI 0 (12 : Int).toNat) () (fun x1 (m2 : Unit) nx3 bk4 =>
  m__law_drawn  fun r6 =>
  m__law_text r6 fun r7 =>
  jn (fun (c8 : Bool) =>
  (if c8 = true then
  k false
  else
  grd (-100000000 ≤ (4 : Int) ∧ (4 : Int) < 100000000) <| forL (rgI 0 (4 : Int).toNat) r7 (fun x10 (m11 : Str) nx12 bk13 =>
  pck ([("" : Str), ("" : Str), (" 0" : Str)] : (List Str)) fun p15 =>
  grd (m11.length + p15.length ≤ 1000000) <|
  m__law_bent (m11 ++ p15) fun r16 =>
  jn (fun (c17 : Bool) =>
  (if c17 = true then
  (if r16 = ("" : Str) then
  m__law_heard ("" : Str) fun r19 =>
  k r19.isNone
  else
  k false)
  else
  nx12 r16)) fun jp18 =>
  (if r16 = ("" : Str) then
  jp18 true
  else
  m__law_heard r16 fun r20 =>
  grd (Shw (optD (fun z => (.tuple (z.map fun z => (optD (fun z => (uD z)) z)))) r20)) <|
  m__law_read r16 fun r21 =>
  grd (Shw (optD (fun z => (.tuple (z.map fun z => (uD z)))) r21)) <|
  jp18 (!(eqb (PyData.shown (optD (fun z => (.tuple (z.map fun z => (optD (fun z => (uD z)) z)))) r20)) (PyData.shown (optD (fun z => (.tuple (z.map fun z => (uD z)))) r21)))))) fun (m14 : Str) =>
  nx3 ())) fun jp9 =>
  m_text_of r6 fun r22 =>
  (if r22 = r7 then
  m_instruction_of r7 (fun r23 =>
  grd (Shw (.tuple (r23.map fun z => (optD (fun z => (uD z)) z)))) <|
  grd (Shw (.tuple (r6.map fun z => (uD z)))) <|
  jp9 (!(eqb (PyData.shown (.tuple (r23.map fun z => (optD (fun z => (uD z)) z)))) (PyData.shown (.tuple (r6.map fun z => (uD z))))))) False
  else
  jp9 true)) fun (m5 : Unit) =>
  m_text_of ([(.inl ("nop" : Str))] : (List (Str ⊕ Int))) fun r24 =>
  (if r24 = ("nop" : Str) then
  m_instruction_of ("st r3 r1 -2" : Str) (fun r25 =>
  k (eqb r25 ([(some (.inl ("st" : Str))), (some (.inr (3 : Int))), (some (.inr (1 : Int))), (some (.inr (-(2 : Int))))] : (List (Option (Str ⊕ Int)))))) False
  else
  k false)

theorem dlk_of {n f : Str} (hp : (n, f) ∈ D_FORMS) : dlk D_FORMS n = some f := by
  have : (D_FORMS.all fun p => decide (dlk D_FORMS p.1 = some p.2)) = true := by decide +kernel
  exact of_decide_eq_true (List.all_eq_true.mp this _ hp)
/-- n with ps is an instruction of the form f -/
def Vld (n f : Str) (ps : List Int) : Prop := ∃ sh, dlk D_SHAPES f = some sh ∧ (ps.length : Int) = sh.1 + (if 0 < sh.2.1 then 1 else 0) ∧ (∀ x ∈ ps.take sh.1.toNat, 0 ≤ x ∧ x ≤ 7) ∧ (sh.2.1 = 0 ∨ ∃ x, ps.getLast? = some x ∧ sh.2.2.1 ≤ x ∧ x ≤ sh.2.2.2)
theorem shapes_all : (D_SHAPES.all fun p => decide (0 ≤ p.2.1 ∧ p.2.1 ≤ 3 ∧ 0 ≤ p.2.2.1)) = true := by decide +kernel
theorem dlk_in {α : Type} {D : List (Str × α)} {x : Str} {v : α} (h : dlk D x = some v) : (x, v) ∈ D := dlk_mem h
theorem shape_bd {f : Str} {sh : Int × Int × Int × Int} (h : dlk D_SHAPES f = some sh) : 0 ≤ sh.1 ∧ sh.1 ≤ 3 ∧ 0 ≤ sh.2.1 := of_decide_eq_true (List.all_eq_true.mp shapes_all _ (dlk_in h))
theorem Vld.want {n f : Str} {ps : List Int} (hp : (n, f) ∈ D_FORMS) (v : Vld n f ps) {k : List (Str ⊕ Int) → Prop} : m_want_instruction (.inl n :: ps.map .inr) k = k (.inl n :: ps.map .inr) := by
  obtain ⟨sh, hs, hl, hr, hw⟩ := v
  obtain ⟨b0, b3, bw⟩ := shape_bd hs
  have hf := dlk_of hp
  have hlen : (((.inl n : Str ⊕ Int) :: ps.map .inr).length : Int) = 1 + ps.length := by simp; omega
  have hcut : cutA ((.inl n : Str ⊕ Int) :: ps.map .inr) (some 1) (some (1 + sh.1)) = (ps.take sh.1.toNat).map .inr := by
    rw [cutA_mid (by omega) (by omega), show (1 : Int).toNat = 1 from rfl, show (1 + sh.1).toNat - 1 = sh.1.toNat by omega, List.drop_one, List.tail_cons, List.map_take]
  unfold m_want_instruction m_is_instruction_value
  rw [if_neg (by rw [hlen]; omega), atI_0, obx_some, if_pos (by rfl), obx_some, obu0_l, hf, if_pos (by rfl), obx_some, obu0_l, hf, obx_some, hs, obx_some]
  have hb : ((1 : Int) + sh.1) + (if (decide ((0 : Int) < sh.2.1)) = true then (1 : Int) else (0 : Int)) = 1 + ps.length := by
    rw [hl]
    by_cases c : 0 < sh.2.1
    · rw [decide_eq_true c, if_pos rfl, if_pos c]; omega
    · rw [decide_eq_false c, if_neg (by decide), if_neg c]; omega
  rw [hb, if_pos hlen, hcut, grd_true (by rw [List.length_map, List.length_take]; omega)]
  rw [lcL_map (fun _ => some true) ?step, List.nil_append, if_pos ?all]
  case all =>
    rw [List.all_eq_true]
    intro b hb
    obtain ⟨_, _, e⟩ := List.mem_filterMap.mp hb
    cases e
    rfl
  case step =>
    intro x hx nx
    obtain ⟨i, hi, rfl⟩ := List.mem_map.mp hx
    have := hr i hi
    rw [obu1_r, if_pos this.1, obu1_r, decide_eq_true this.2]
  rcases hw with hw | ⟨x, hx, h1, h2⟩
  · rw [if_pos hw]
    exact if_pos rfl
  · by_cases hz : sh.2.1 = 0
    · rw [if_pos hz]
      exact if_pos rfl
    · have ha : atI ((.inl n : Str ⊕ Int) :: ps.map .inr) (-(1 : Int)) = some (.inr x) := by
        obtain ⟨ys, rfl⟩ : ∃ ys, ps = ys ++ [x] := by
          refine ⟨ps.dropLast, ?_⟩
          have hne : ps ≠ [] := by rintro rfl; cases hx
          have e := List.getLast?_eq_some_getLast hne
          rw [hx] at e
          rw [Option.some.inj e]
          exact (List.dropLast_concat_getLast hne).symm
        rw [List.map_append, ← List.cons_append]
        exact atI_m1
      rw [if_neg hz, ha, obx_some, obu1_r, obx_some, obu1_r, if_pos h1, decide_eq_true h2]
      exact if_pos rfl
theorem Vld.three {n : Str} {ps : List Int} (v : Vld n "three" ps) : ∃ a b c, ps = [a, b, c] ∧ (0 ≤ a ∧ a ≤ 7) ∧ (0 ≤ b ∧ b ≤ 7) ∧ (0 ≤ c ∧ c ≤ 7) := by
  obtain ⟨sh, hs, hl, hr, _⟩ := v
  have e : dlk D_SHAPES "three" = some (3, 0, 0, 0) := by decide +kernel
  rw [e] at hs
  cases hs
  have hl2 : ps.length = 3 := by simp at hl; omega
  match ps, hl2 with
  | [a, b, c], _ => exact ⟨a, b, c, rfl, hr a (by simp), hr b (by simp), hr c (by simp)⟩
theorem Vld.near {n : Str} {ps : List Int} (v : Vld n "near" ps) : ∃ a b x, ps = [a, b, x] ∧ (0 ≤ a ∧ a ≤ 7) ∧ (0 ≤ b ∧ b ≤ 7) ∧ (-16 ≤ x ∧ x ≤ 15) := by
  obtain ⟨sh, hs, hl, hr, hw⟩ := v
  have e : dlk D_SHAPES "near" = some (2, 5, -16, 15) := by decide +kernel
  rw [e] at hs
  cases hs
  have hl2 : ps.length = 3 := by simp at hl; omega
  match ps, hl2 with
  | [a, b, c], _ =>
    refine ⟨a, b, c, rfl, hr a (by simp), hr b (by simp), ?_⟩
    rcases hw with hw | ⟨x, hx, h1, h2⟩
    · cases hw
    · simp at hx
      subst hx
      exact ⟨h1, h2⟩
theorem shape_cases : (D_SHAPES.all fun p => decide (p.1 = "three" ∨ p.1 = "near" ∨ p.1 = "call" ∨ p.1 = "bare" ∨ 1 ≤ p.2.1)) = true := by decide +kernel
theorem Vld.rest {n f : Str} {ps : List Int} (v : Vld n f ps) (h3 : f ≠ "three") (hn : f ≠ "near") : (∃ a r, ps = a :: r ∧ 0 ≤ a ∧ a ≤ 7) ∨ (f = "call" ∨ f = "bare") := by
  obtain ⟨sh, hs, hl, hr, _⟩ := v
  rcases of_decide_eq_true (List.all_eq_true.mp shape_cases _ (dlk_in hs)) with h | h | h | h | h
  · exact absurd h h3
  · exact absurd h hn
  · exact .inr (.inl h)
  · exact .inr (.inr h)
  · left
    have h' : 1 ≤ sh.1 := h
    cases ps with
    | nil => split at hl <;> simp at hl <;> omega
    | cons a r =>
      obtain ⟨m, hm⟩ : ∃ m, sh.1.toNat = m + 1 := ⟨sh.1.toNat - 1, by omega⟩
      exact ⟨a, r, rfl, hr a (by rw [hm]; simp)⟩
def lN : List Str := [("add" : Str), ("sub" : Str), ("mul" : Str), ("div" : Str), ("and" : Str), ("or" : Str), ("xor" : Str), ("shl" : Str), ("shr" : Str), ("low" : Str), ("eq" : Str), ("addi" : Str), ("ld" : Str)] ++ [("st" : Str), ("jr" : Str), ("lim" : Str), ("lhi" : Str), ("bz" : Str), ("bnz" : Str), ("jal" : Str), ("sys" : Str), ("rdc" : Str), ("wrc" : Str), ("ret" : Str), ("halt" : Str), ("nop" : Str)]
def F7 : List (Int × Str) := [((11 : Int), ("three" : Str)), ((15 : Int), ("near" : Str)), ((17 : Int), ("byte" : Str)), ((20 : Int), ("far" : Str)), ((21 : Int), ("call" : Str)), ((23 : Int), ("control" : Str)), ((26 : Int), ("bare" : Str))]
theorem names_eq {k : List Str → Prop} : m__law_names k = k lN := by
  unfold m__law_names
  rw [grd_true (by decide)]
  rfl
theorem form_all : (D_FORMS.all fun p => match ixof lN p.1 with | some i => decide (atI ((F7.filter fun x => decide ((i : Int) < x.1)).map (·.2)) 0 = some p.2) | none => false) = true := by decide +kernel
theorem form_eq {p : Str × Str} (hp : p ∈ D_FORMS) {k : Str → Prop} : m__law_form p.1 k = k p.2 := by
  have h := List.all_eq_true.mp form_all p hp
  unfold m__law_form
  rw [names_eq]
  cases e : ixof lN p.1 with
  | none => rw [e] at h; cases h
  | some i =>
    rw [e] at h
    have h2 := of_decide_eq_true h
    rw [obx_some, grd_true (by decide)]
    have := lcL_if (xs := F7) (acc := []) (k := fun ys5 => obx (atI ys5 (0 : Int)) fun w6 => k w6) (fun x3 : Int × Str => (i : Int) < x3.1) (fun x3 => x3.2)
    refine this.trans ?_
    rw [List.nil_append]
    show obx (atI ((F7.filter fun x => decide ((i : Int) < x.1)).map (·.2)) 0) _ = _
    rw [h2, obx_some]
theorem names_in : ∀ n ∈ lN, ∃ f, (n, f) ∈ D_FORMS := by
  intro n hn
  have : (lN.all fun n => D_FORMS.any fun p => decide (p.1 = n)) = true := by decide +kernel
  obtain ⟨p, hp, e⟩ := List.any_eq_true.mp (List.all_eq_true.mp this n hn)
  obtain rfl := of_decide_eq_true e
  exact ⟨p.2, hp⟩
def lo (sh : Int × Int × Int × Int) : Option Int := if sh.2.1 = 0 then none else some sh.2.2.1
def hi (sh : Int × Int × Int × Int) : Option Int := if sh.2.1 = 0 then none else some sh.2.2.2
theorem shape_eq {f : Str} {sh : Int × Int × Int × Int} (h : dlk D_SHAPES f = some sh) {k : (Int × Option Int × Option Int) → Prop} : m__law_shape f k = k (sh.1, lo sh, hi sh) := by
  have hm := dlk_in h
  unfold m__law_shape
  simp only [D_SHAPES, List.mem_cons, List.not_mem_nil, or_false, Prod.mk.injEq] at hm
  rcases hm with ⟨rfl, rfl⟩ | ⟨rfl, rfl⟩ | ⟨rfl, rfl⟩ | ⟨rfl, rfl⟩ | ⟨rfl, rfl⟩ | ⟨rfl, rfl⟩ | ⟨rfl, rfl⟩
  · rw [if_pos rfl]; rfl
  · rw [if_neg (by decide), if_pos rfl]; rfl
  · rw [if_neg (by decide), if_neg (by decide), if_neg (by decide), if_neg (by decide), jn_eq, if_neg (by decide)]
    dsimp only
    rw [jn_eq, if_neg (by decide)]; rfl
  · rw [if_neg (by decide), if_neg (by decide), if_neg (by decide), if_pos rfl]; rfl
  · rw [if_neg (by decide), if_neg (by decide), if_neg (by decide), if_neg (by decide), jn_eq, if_pos rfl]
    dsimp only
    rw [jn_eq, if_neg (by decide)]; rfl
  · rw [if_neg (by decide), if_neg (by decide), if_neg (by decide), if_neg (by decide), jn_eq, if_neg (by decide)]
    dsimp only
    rw [jn_eq, if_pos rfl]; rfl
  · rw [if_neg (by decide), if_neg (by decide), if_pos rfl]; rfl
theorem has_shape {n f : Str} (hp : (n, f) ∈ D_FORMS) : ∃ sh, dlk D_SHAPES f = some sh := by
  have : (D_FORMS.all fun p => (dlk D_SHAPES p.2).isSome) = true := by decide +kernel
  exact Option.isSome_iff_exists.mp (List.all_eq_true.mp this _ hp)
theorem wide_le : (D_SHAPES.all fun p => decide (p.2.2.1 = 0 ∨ (p.2.2.2.1 ≤ p.2.2.2.2 ∧ -1000 ≤ p.2.2.2.1 ∧ p.2.2.2.2 ≤ 1000))) = true := by decide +kernel
theorem vld_bare {n f : Str} {ps : List Int} {sh : Int × Int × Int × Int} (hs : dlk D_SHAPES f = some sh) (hz : sh.2.1 = 0) (hl : ps.length = sh.1.toNat) (hr : ∀ x ∈ ps, 0 ≤ x ∧ x ≤ 7) : Vld n f ps := by
  have := shape_bd hs
  exact ⟨sh, hs, by rw [if_neg (by omega)]; omega, fun x hx => hr x (List.mem_of_mem_take hx), .inl hz⟩
theorem vld_num {n f : Str} {ps : List Int} {x : Int} {sh : Int × Int × Int × Int} (hs : dlk D_SHAPES f = some sh) (hz : sh.2.1 ≠ 0) (hl : ps.length = sh.1.toNat) (hr : ∀ x ∈ ps, 0 ≤ x ∧ x ≤ 7) (h1 : sh.2.2.1 ≤ x) (h2 : x ≤ sh.2.2.2) : Vld n f (ps ++ [x]) := by
  have := shape_bd hs
  refine ⟨sh, hs, by rw [if_pos (by omega), List.length_append]; simp; omega, fun y hy => ?_, .inr ⟨x, by simp, h1, h2⟩⟩
  rw [← hl, List.take_left] at hy
  exact hr y hy
theorem drawn_ok {k : List (Str ⊕ Int) → Prop} (h : ∀ n f ps, (n, f) ∈ D_FORMS → Vld n f ps → k (.inl n :: ps.map .inr)) : m__law_drawn k := by
  unfold m__law_drawn
  rw [names_eq]
  refine pck_ok (by decide) fun n hn => ?_
  obtain ⟨f, hp⟩ := names_in n hn
  obtain ⟨sh, hs⟩ := has_shape hp
  obtain ⟨b0, b3, bw⟩ := shape_bd hs
  rw [form_eq (p := (n, f)) hp, shape_eq hs]
  dsimp only
  rw [grd_true (by omega)]
  refine forL_inv (fun i (m : List Int) => m.length = i ∧ ∀ x ∈ m, 0 ≤ x ∧ x ≤ 7) ⟨rfl, by simp⟩ (fun i x m nx hx I next => ?_) (fun m I => ?_)
  · have := (List.getElem?_eq_some_iff.mp hx).1
    rw [rgI_len] at this
    refine drw_ok (by omega) fun d q1 q2 => ?_
    rw [grd_true (by omega)]
    refine next _ ⟨by simp [I.1], fun y hy => ?_⟩
    rcases List.mem_append.mp hy with hy | hy
    · exact I.2 y hy
    · rw [List.mem_singleton.mp hy]; omega
  · rw [rgI_len] at I
    rw [jn_eq]
    unfold lo hi
    by_cases hz : sh.2.1 = 0
    · rw [if_pos hz, if_pos hz, if_pos (by rfl)]
      dsimp only
      rw [grd_true (by simp; omega)]
      exact h n f m hp (vld_bare hs hz I.1 I.2)
    · rw [if_neg hz, if_neg hz, if_neg (by simp), obg_some, obg_some, obg_some]
      have hb := of_decide_eq_true (List.all_eq_true.mp wide_le _ (dlk_in hs))
      have hb := hb.resolve_left hz
      refine drw_ok (by simp only at hb; omega) fun d q1 q2 => ?_
      refine pck_ok (by simp) fun o ho => ?_
      obtain ⟨x, rfl, h1, h2⟩ : ∃ x, o = some x ∧ sh.2.2.1 ≤ x ∧ x ≤ sh.2.2.2 := by
        simp only [List.mem_cons, List.not_mem_nil, or_false] at ho
        simp only at hb
        rcases ho with rfl | rfl | rfl | rfl
        · exact ⟨_, rfl, by omega, by omega⟩
        · exact ⟨_, rfl, by omega, by omega⟩
        · exact ⟨_, rfl, by omega, by omega⟩
        · exact ⟨_, rfl, by omega, by omega⟩
      rw [obg_some, grd_true (by omega)]
      dsimp only
      rw [grd_true (by simp; omega)]
      exact h n f (m ++ [x]) hp (vld_num hs hz I.1 I.2 h1 h2)
theorem rep_len {a : Int} {m : Nat} : (List.replicate m [a]).flatten = List.replicate m a := by
  induction m with
  | zero => rfl
  | succ m ih => rw [List.replicate_succ, List.flatten_cons, ih]; rfl
theorem at1 {n : Str} {a : Int} {r : List Int} : atI ((.inl n : Str ⊕ Int) :: (a :: r).map .inr) 1 = some (.inr a) := atI_of (by omega) rfl
theorem at2 {n : Str} {a b : Int} {r : List Int} : atI ((.inl n : Str ⊕ Int) :: (a :: b :: r).map .inr) 2 = some (.inr b) := atI_of (by omega) rfl
theorem at3 {n : Str} {a b c : Int} {r : List Int} : atI ((.inl n : Str ⊕ Int) :: (a :: b :: c :: r).map .inr) 3 = some (.inr c) := atI_of (by omega) rfl
/-! ## texts as lists of signs -/
abbrev cs (w : Str) : List Nat := w.cps.toList
theorem ext_cs {x y : Str} (h : cs x = cs y) : x = y := TL.ext_tl h
theorem len_cs (w : Str) : w.length = (cs w).length := TL.len_tl w
theorem cs_add (x y : Str) : cs (x ++ y) = cs x ++ cs y := TL.tl_append x y
theorem cs_sg (c : Nat) : cs (sg c) = [c] := rfl
theorem sg_len (c : Nat) : (sg c).length = 1 := rfl
theorem figs : cs ("0123456789" : Str) = [48, 49, 50, 51, 52, 53, 54, 55, 56, 57] := by decide +kernel
theorem mem_figs {c : Nat} : c ∈ cs ("0123456789" : Str) ↔ 48 ≤ c ∧ c ≤ 57 := by
  rw [figs]
  simp only [List.mem_cons, List.not_mem_nil, or_false]
  omega
theorem cs_from (w : Str) : cs (cutS w (some 1) none) = (cs w).drop 1 := by
  have h : HT.sIx w.length w.length none = w.length := HT.sIx_none ..
  have h1 : cutA (cs w) (some 1) none = (cs w).drop 1 := cutA_from (by omega)
  have e : cs (cutS w (some 1) none) = cutA (cs w) (some 1) none := by
    show (List.toArray _).toList = _
    unfold cutA
    rw [len_cs]
  rw [e, h1]
theorem cs_to (w : Str) {j : Int} (hj : 0 ≤ j) : cs (cutS w none (some j)) = (cs w).take j.toNat := by
  have h1 : cutA (cs w) none (some j) = (cs w).take j.toNat := cutA_to hj
  have e : cs (cutS w none (some j)) = cutA (cs w) none (some j) := by
    show (List.toArray _).toList = _
    unfold cutA
    rw [len_cs]
  rw [e, h1]
theorem cs_r : cs ("r" : Str) = [114] := by decide +kernel
theorem cs_0 : cs ("0" : Str) = [48] := by decide +kernel
theorem cs_m : cs ("-" : Str) = [45] := by decide +kernel
theorem cs_sp : cs (" " : Str) = [32] := by decide +kernel
theorem cs_e : cs ("" : Str) = [] := by decide +kernel
theorem sg_r {c : Nat} : sg c = ("r" : Str) ↔ c = 114 := ⟨fun h => by have := congrArg cs h; rw [cs_sg, cs_r] at this; simpa using this, fun h => by subst h; exact ext_cs (by rw [cs_sg, cs_r])⟩
theorem sg_0 {c : Nat} : sg c = ("0" : Str) ↔ c = 48 := ⟨fun h => by have := congrArg cs h; rw [cs_sg, cs_0] at this; simpa using this, fun h => by subst h; exact ext_cs (by rw [cs_sg, cs_0])⟩
/-! numbers -/
theorem numL_canon {l : List Nat} (h : NumText.AllDigits l) (hc : (∃ c, l = [c]) ∨ ∃ c r, l = c :: r ∧ 49 ≤ c) : TL.numL (NumText.digitsVal l) = l := by
  have e : Nat.toDigits 10 (NumText.digitsVal l) = l.map Char.ofNat := by
    rcases hc with ⟨c, rfl⟩ | ⟨c, r, rfl, hc⟩
    · exact NumText.toDigits_digitsVal 0 _ rfl h (.inl rfl)
    · exact NumText.toDigits_digitsVal r.length _ rfl h (.inr ⟨c, r, rfl, hc⟩)
  unfold TL.numL
  rw [e, List.map_map]
  conv => rhs; rw [← List.map_id l]
  refine List.map_congr_left fun c hc => ?_
  have := h c hc
  have hd : ∀ d : Nat, d < 10 → (Char.ofNat (48 + d)).toNat = 48 + d := by decide
  have := hd (c - 48) (by omega)
  rw [show 48 + (c - 48) = c by omega] at this
  exact this
theorem numL_head : ∀ n : Nat, n ≠ 0 → ∃ c r, TL.numL n = c :: r ∧ 49 ≤ c := fun n => by
  induction n using Nat.strongRecOn with
  | _ n ih =>
    intro hn
    by_cases h : n < 10
    · exact ⟨48 + n, [], TL.numL_lt h, by omega⟩
    · obtain ⟨c, r, e, hc⟩ := ih (n / 10) (by omega) (by omega)
      exact ⟨c, r ++ [48 + n % 10], by rw [TL.numL_step (by omega), e]; rfl, hc⟩
theorem numL_0 : TL.numL 0 = [48] := TL.numL_lt (by omega)
/-- a written number without needless noughts -/
theorem canon_iff {l : List Nat} (h : NumText.AllDigits l) (hne : l ≠ []) : TL.numL (NumText.digitsVal l) = l ↔ (l = [48] ∨ l.head? ≠ some 48) := by
  constructor
  · intro e
    by_cases hz : NumText.digitsVal l = 0
    · rw [hz, numL_0] at e
      exact .inl e.symm
    · obtain ⟨c, r, e2, hc⟩ := numL_head _ hz
      rw [e] at e2
      subst e2
      refine .inr ?_
      simp only [List.head?_cons, ne_eq, Option.some.injEq]
      omega
  · rintro (e | e)
    · subst e; exact numL_canon h (.inl ⟨_, rfl⟩)
    · cases l with
      | nil => exact absurd rfl hne
      | cons c r =>
        have := h c (List.mem_cons_self ..)
        refine numL_canon h (.inr ⟨c, r, rfl, ?_⟩)
        simp only [List.head?_cons, ne_eq, Option.some.injEq] at e
        omega
theorem cs_nat (n : Nat) : cs (Str.ofString (toString (n : Int))) = TL.numL n := TL.tl_num n
theorem cs_neg {n : Nat} (h : 0 < n) : cs (Str.ofString (toString (-(n : Int)))) = 45 :: TL.numL n := by
  rw [PyProof.Rows.toString_neg (by omega)]
  have e : Str.ofString ("-" ++ toString (0 - -(n : Int))) = Str.ofString "-" ++ Str.ofString (toString (0 - -(n : Int))) := by
    refine ext_cs ?_
    rw [cs_add]
    show TL.tl _ = TL.tl _ ++ TL.tl _
    rw [TL.tl_ofString, TL.tl_ofString, TL.tl_ofString, String.toList_append, List.map_append]
  rw [e, cs_add, show (0 - -(n : Int)) = (n : Int) by omega, cs_nat]
  rfl
/-! ## one word -/
theorem AD_iff {l : List Nat} : NumText.AllDigits l ↔ ∀ c ∈ l, 48 ≤ c ∧ c ≤ 57 := Iff.rfl
theorem int1 {c : Nat} (h : 48 ≤ c ∧ c ≤ 57) : PySem.intText? (sg c) = some ((c : Int) - 48) := by
  have e := PySem.intText_digits (x := sg c) (fun d hd => by
    have : d = c := by simpa [sg] using hd
    subst this; exact h) (by simp [sg]) (by rw [sg_len]; omega)
  rw [e]
  have v : NumText.digitsVal (sg c).cps.toList = c - 48 := by simp [sg, NumText.digitsVal]
  rw [v]
  congr 1
  omega
def regW (w : Str) : Option Int := match cs w with
  | [a, c] => if a = 114 ∧ 48 ≤ c ∧ c ≤ 55 then some ((c : Int) - 48) else none
  | _ => none
theorem reg_eq {w : Str} (hl : w.length ≤ 1000) {k : Option (Str ⊕ Int) → Prop} : m_register_in w k = k ((regW w).map .inr) := by
  unfold m_register_in
  rw [grd_true (by omega)]
  have hlen := len_cs w
  by_cases h2 : w.length = 2
  · rw [if_pos (by omega)]
    obtain ⟨a, c, e⟩ : ∃ a c, cs w = [a, c] := by
      rw [h2] at hlen
      match cs w, hlen with
      | [a, c], _ => exact ⟨a, c, rfl⟩
    have e0 : atI w.cps.toList (0 : Int) = some a := by rw [show w.cps.toList = [a, c] from e]; rfl
    have e1 : atI w.cps.toList (1 : Int) = some c := by rw [show w.cps.toList = [a, c] from e]; rfl
    have er : regW w = if a = 114 ∧ 48 ≤ c ∧ c ≤ 55 then some ((c : Int) - 48) else none := by unfold regW; rw [e]
    rw [grd_true (by omega), e0, obx_some, e1, er]
    by_cases ha : a = 114
    · rw [if_pos (sg_r.mpr ha), grd_true (by omega), obx_some]
      by_cases hc : 48 ≤ c ∧ c ≤ 57
      · rw [if_pos (mem_figs.mpr hc), grd_true (by omega), obx_some, grd_true (by rw [sg_len]; omega), int1 hc, obx_some]
        by_cases h7 : (7 : Int) < (c : Int) - 48
        · rw [if_pos h7, if_neg (by omega)]; rfl
        · rw [if_neg h7, if_pos (by omega), grd_true (by omega), obx_some, grd_true (by rw [sg_len]; omega), int1 hc, obx_some]; rfl
      · rw [if_neg (fun z => hc (mem_figs.mp z)), if_neg (by omega)]; rfl
    · rw [if_neg (fun z => ha (sg_r.mp z)), if_neg (by omega)]; rfl
  · rw [if_neg (by omega)]
    have er : regW w = none := by
      unfold regW
      split
      · rename_i a c e
        rw [e] at hlen
        exact absurd hlen h2
      · rfl
    rw [er]; rfl
/-- what stands behind a sign -/
def body (w : Str) : List Nat := if (cs w).head? = some 45 then (cs w).drop 1 else cs w
def okN (w : Str) : Prop := NumText.AllDigits (body w) ∧ body w ≠ [] ∧ ((body w).head? ≠ some 48 ∨ (cs w = [48]))
def valN (w : Str) : Int := if (cs w).head? = some 45 then -((NumText.digitsVal (body w) : Nat) : Int) else ((NumText.digitsVal (body w) : Nat) : Int)
open Classical in
noncomputable def numO (b : Nat) (w : Str) : Option Int := if okN w ∧ (body w).length ≤ b then some (valN w) else none
theorem numO_some {b : Nat} {w : Str} (h : okN w) (hl : (body w).length ≤ b) : numO b w = some (valN w) := if_pos ⟨h, hl⟩
theorem numO_none {b : Nat} {w : Str} (h : ¬ (okN w ∧ (body w).length ≤ b)) : numO b w = none := if_neg h
theorem minus_iff {w : Str} : cutS w none (some (1 : Int)) = ("-" : Str) ↔ (cs w).head? = some 45 := by
  constructor
  · intro h
    have := congrArg cs h
    rw [cs_to w (by omega), cs_m] at this
    cases e : cs w with
    | nil => rw [e] at this; cases this
    | cons a r => rw [e] at this; simpa using this
  · intro h
    refine ext_cs ?_
    rw [cs_to w (by omega), cs_m]
    cases e : cs w with
    | nil => rw [e] at h; cases h
    | cons a r => rw [e] at h; simpa using h
/-- the word without its sign -/
theorem told_ok {w : Str} (hl : w.length ≤ 1000) {k : Str → Prop} : (jn k fun jp2 =>
  grd (w.length ≤ 100000) <|
  (if (cutS w none (some (1 : Int))) = ("-" : Str) then
  grd (w.length ≤ 100000) <|
  jp2 (cutS w (some (1 : Int)) none)
  else
  jp2 w)) = k (if (cs w).head? = some 45 then cutS w (some 1) none else w) := by
  rw [jn_eq, grd_true (by omega)]
  by_cases h : (cs w).head? = some 45
  · rw [if_pos (minus_iff.mpr h), grd_true (by omega), if_pos h]
  · rw [if_neg (fun z => h (minus_iff.mp z)), if_neg h]
theorem cs_told {w : Str} : cs (if (cs w).head? = some 45 then cutS w (some 1) none else w) = body w := by
  unfold body
  by_cases h : (cs w).head? = some 45
  · rw [if_pos h, if_pos h, cs_from]
  · rw [if_neg h, if_neg h]
theorem body_len {w : Str} : (body w).length ≤ w.length := by
  unfold body
  rw [len_cs]
  split
  · rw [List.length_drop]; omega
  · omega
theorem intN {w : Str} (h : NumText.AllDigits (body w)) (hne : body w ≠ []) (hl : w.length ≤ 1000) : PySem.intText? w = some (valN w) := by
  unfold valN
  by_cases c : (cs w).head? = some 45
  · rw [if_pos c]
    have e : cs w = 45 :: body w := by
      unfold body
      rw [if_pos c]
      cases e : cs w with
      | nil => rw [e] at c; cases c
      | cons a r => rw [e] at c; simp at c; rw [c]; rfl
    exact PySem.intText_neg e h hne (by omega)
  · rw [if_neg c]
    have e : body w = cs w := by unfold body; rw [if_neg c]
    rw [e] at h hne ⊢
    exact PySem.intText_digits h hne (by omega)
theorem all_figs {l : List Nat} {k : List Bool → Prop} : lcL l [] (fun x3 nx4 => nx4 (some (decide (x3 ∈ ("0123456789" : Str).cps.toList)))) k = k (l.map fun x => decide (x ∈ ("0123456789" : Str).cps.toList)) := by
  rw [lcL_some]; rfl
theorem all_dig {l : List Nat} : ((l.map fun x => decide (x ∈ ("0123456789" : Str).cps.toList)).all id) = true ↔ NumText.AllDigits l := by
  rw [List.all_map, List.all_eq_true]
  constructor
  · intro h c hc
    have := h c hc
    simp only [Function.comp_apply, id_eq, decide_eq_true_eq] at this
    exact mem_figs.mp this
  · intro h c hc
    simp only [Function.comp_apply, id_eq, decide_eq_true_eq]
    exact mem_figs.mpr (h c hc)
theorem int_eq {w : Str} (hl : w.length ≤ 600) {k : Option (Str ⊕ Int) → Prop} : m_integer_in w k = k ((numO 3 w).map .inr) := by
  unfold m_integer_in
  rw [told_ok (by omega)]
  have hb := @cs_told w
  have hbl := @body_len w
  generalize (if (cs w).head? = some 45 then cutS w (some 1) none else w) = r at hb
  have hr : r.length = (body w).length := by rw [len_cs, hb]
  rw [grd_true (by omega)]
  by_cases h1 : 1 ≤ (body w).length
  · rw [if_pos (by omega)]
    by_cases h3 : (body w).length ≤ 3
    · rw [if_pos (by omega), grd_true (by show r.cps.toList.length ≤ _; rw [show r.cps.toList = body w from hb]; omega), all_figs, show r.cps.toList = body w from hb]
      by_cases hd : NumText.AllDigits (body w)
      · rw [if_pos (all_dig.mpr hd), jn_eq, grd_true (by omega)]
        obtain ⟨a, t, e⟩ : ∃ a t, body w = a :: t := by
          cases e : body w with
          | nil => rw [e] at h1; simp at h1
          | cons a t => exact ⟨a, t, rfl⟩
        have hne : body w ≠ [] := by rw [e]; simp
        rw [show atI (body w) (0 : Int) = some a by rw [e]; exact atI_0, obx_some]
        have main : ∀ {P : Prop}, (okN w → P = k ((numO 3 w).map .inr)) → (¬ okN w → P = k none) → P = k ((numO 3 w).map .inr) := fun {P} p q => by
          by_cases o : okN w
          · exact p o
          · rw [q o, numO_none (fun z => o z.1)]; rfl
        by_cases h0 : sg a = ("0" : Str)
        · have ea := sg_0.mp h0
          subst ea
          rw [if_pos h0]
          by_cases hw : w = ("0" : Str)
          · have ok : okN w := ⟨hd, hne, .inr (by rw [hw, cs_0])⟩
            rw [numO_some ok h3]
            rw [show (!(eqb w ("0" : Str))) = false by simp [hw]]
            dsimp only
            rw [if_neg (by decide), grd_true (by omega), intN hd hne (by omega), obx_some]
            rfl
          · have nk : ¬ okN w := fun z => by
              rcases z.2.2 with z | z
              · rw [e] at z; exact z rfl
              · exact hw (ext_cs (by rw [z, cs_0]))
            rw [numO_none (fun z => nk z.1)]
            rw [show (!(eqb w ("0" : Str))) = true by simp [hw]]
            rfl
        · rw [if_neg h0]
          have ok : okN w := ⟨hd, hne, .inl (by
            rw [e]
            simp only [List.head?_cons, ne_eq, Option.some.injEq]
            exact fun z => h0 (sg_0.mpr z))⟩
          rw [numO_some ok h3]
          dsimp only
          rw [if_neg (by decide), grd_true (by omega), intN hd hne (by omega), obx_some]
          rfl
      · rw [if_neg (fun z => hd (all_dig.mp z)), numO_none (fun z => hd z.1.1)]; rfl
    · rw [if_neg (by omega), numO_none (fun z => h3 z.2)]; rfl
  · rw [if_neg (by omega), numO_none (fun z => h1 (by
      have := z.1.2.1
      cases e : body w with
      | nil => exact absurd e this
      | cons a t => simp))]; rfl

theorem cs_val {w : Str} (ok : okN w) : (toString (valN w) : Str) = w := by
  obtain ⟨hd, hne, hc⟩ := ok
  refine ext_cs ?_
  unfold valN
  by_cases c : (cs w).head? = some 45
  · rw [if_pos c]
    have e : cs w = 45 :: body w := by
      unfold body
      rw [if_pos c]
      cases e : cs w with
      | nil => rw [e] at c; cases c
      | cons a r => rw [e] at c; simp at c; rw [c]; rfl
    have h48 : (body w).head? ≠ some 48 := by
      rcases hc with z | z
      · exact z
      · rw [z] at c; simp at c
    have hcan : TL.numL (NumText.digitsVal (body w)) = body w := (canon_iff hd hne).mpr (.inr h48)
    have pos : 0 < NumText.digitsVal (body w) := by
      cases z : NumText.digitsVal (body w) with
      | zero =>
        rw [z, numL_0] at hcan
        rw [← hcan] at h48
        exact absurd rfl h48
      | succ n => omega
    rw [cs_neg pos, hcan, e]
  · rw [if_neg c]
    have e : body w = cs w := by unfold body; rw [if_neg c]
    rw [cs_nat, e]
    rw [e] at hd hne hc
    refine (canon_iff hd hne).mpr ?_
    rcases hc with z | z
    · exact .inr z
    · exact .inl z
theorem val_cs {w : Str} (hd : NumText.AllDigits (body w)) (hne : body w ≠ []) (h : (toString (valN w) : Str) = w) : okN w := by
  refine ⟨hd, hne, ?_⟩
  have h := congrArg cs h
  unfold valN at h
  by_cases c : (cs w).head? = some 45
  · rw [if_pos c] at h
    have e : cs w = 45 :: body w := by
      unfold body
      rw [if_pos c]
      cases e : cs w with
      | nil => rw [e] at c; cases c
      | cons a r => rw [e] at c; simp at c; rw [c]; rfl
    by_cases z : NumText.digitsVal (body w) = 0
    · rw [z, show (-((0 : Nat) : Int)) = ((0 : Nat) : Int) by rfl, cs_nat, numL_0, e] at h
      cases h
    · rw [cs_neg (by omega), e] at h
      have h2 : TL.numL (NumText.digitsVal (body w)) = body w := by simpa using h
      rcases (canon_iff hd hne).mp h2 with q | q
      · rw [q] at z
        exact absurd (by decide) z
      · exact .inl q
  · rw [if_neg c] at h
    have e : body w = cs w := by unfold body; rw [if_neg c]
    rw [cs_nat] at h
    have h2 : TL.numL (NumText.digitsVal (body w)) = body w := by rw [h, e]
    rcases (canon_iff hd hne).mp h2 with q | q
    · exact .inr (by rw [← e]; exact q)
    · exact .inl q
theorem dv_aux : ∀ (l : List Nat) (acc : Nat), NumText.AllDigits l → l.foldl (fun acc c => acc * 10 + (c - 48)) acc < (acc + 1) * 10 ^ l.length
  | [], acc, _ => by simp
  | c :: l, acc, h => by
    have hc := h c (List.mem_cons_self ..)
    have ih := dv_aux l (acc * 10 + (c - 48)) (fun d hd => h d (List.mem_cons_of_mem _ hd))
    rw [List.foldl_cons, List.length_cons, Nat.pow_succ]
    refine Nat.lt_of_lt_of_le ih ?_
    rw [Nat.mul_comm (10 ^ l.length) 10, ← Nat.mul_assoc]
    exact Nat.mul_le_mul_right _ (by omega)
theorem dv_lt {l : List Nat} (h : NumText.AllDigits l) : NumText.digitsVal l < 10 ^ l.length := by
  have := dv_aux l 0 h
  simpa [NumText.digitsVal] using this
theorem val_small {w : Str} (hd : NumText.AllDigits (body w)) (hl : (body w).length ≤ 4) : (valN w).natAbs < 10000 := by
  have h1 := dv_lt hd
  have h2 : 10 ^ (body w).length ≤ 10 ^ 4 := Nat.pow_le_pow_right (by decide) hl
  unfold valN
  split <;> omega
theorem num_eq {w : Str} (hw : tOk w) (hl : w.length ≤ 600) {k : Option Int → Prop} : m__law_number w k = k (numO 4 w) := by
  unfold m__law_number
  rw [told_ok (by omega)]
  have hb := @cs_told w
  have hbl := @body_len w
  have hrk : tOk (if (cs w).head? = some 45 then cutS w (some 1) none else w) := by
    split
    · exact tOk_cut hw
    · exact hw
  generalize (if (cs w).head? = some 45 then cutS w (some 1) none else w) = r at hb hrk
  have hr : r.length = (body w).length := by rw [len_cs, hb]
  have hre : r = ("" : Str) ↔ body w = [] := by
    rw [← hb]
    exact ⟨fun z => by rw [z, cs_e], fun z => ext_cs (by rw [z, cs_e])⟩
  by_cases h0 : body w = []
  · rw [if_pos (hre.mpr h0), numO_none (fun z => z.1.2.1 h0)]
  · rw [if_neg (fun z => h0 (hre.mp z)), grd_true (by show r.cps.toList.length ≤ _; rw [show r.cps.toList = body w from hb]; omega)]
    rw [lcL_map (fun c => if c ∈ ("0123456789" : Str).cps.toList then none else some (sg c)) (fun c hc nx => by
      by_cases m : c ∈ ("0123456789" : Str).cps.toList
      · rw [if_pos m, if_pos m]
      · rw [if_neg m, if_neg m, grd_true (tOk_sg hrk hc)]), List.nil_append, show r.cps.toList = body w from hb]
    by_cases hd : NumText.AllDigits (body w)
    · rw [if_pos (by
        refine List.filterMap_eq_nil_iff.mpr fun c hc => ?_
        rw [if_pos (mem_figs.mpr (hd c hc))])]
      rw [grd_true (by omega)]
      by_cases h4 : (body w).length ≤ 4
      · rw [if_neg (by omega), grd_true (by omega), intN hd h0 (by omega), obx_some, grd_true (Nat.lt_trans (val_small hd h4) (by decide))]
        by_cases o : okN w
        · rw [if_pos (cs_val o), grd_true (by omega), obx_some, numO_some o h4]
        · rw [if_neg (fun z => o (val_cs hd h0 z)), numO_none (fun z => o z.1)]
      · rw [if_pos (by omega), numO_none (fun z => h4 z.2)]
    · rw [if_neg ?_, numO_none (fun z => hd z.1.1)]
      intro z
      refine hd fun c hc => ?_
      have := List.filterMap_eq_nil_iff.mp z c hc
      by_cases m : c ∈ ("0123456789" : Str).cps.toList
      · exact mem_figs.mp m
      · rw [if_neg m] at this; cases this
theorem numO_34 {w : Str} {n : Int} (h : -1000 < n ∧ n < 1000) : numO 3 w = some n ↔ numO 4 w = some n := by
  by_cases o : okN w
  · by_cases h3 : (body w).length ≤ 3
    · rw [numO_some o h3, numO_some o (by omega)]
    · rw [numO_none (fun z => h3 z.2)]
      by_cases h4 : (body w).length ≤ 4
      · rw [numO_some o h4]
        refine ⟨fun z => (by cases z), fun z => ?_⟩
        exfalso
        have e := Option.some.inj z
        obtain ⟨hd, hne, hc⟩ := o
        have hc : (body w).head? ≠ some 48 := by
          rcases hc with z | z
          · exact z
          · have : body w = [48] := by unfold body; rw [z]; decide
            rw [this] at h3; simp at h3
        have big : 1000 ≤ NumText.digitsVal (body w) := by
          match hb : body w, (by omega : (body w).length = 4) with
          | [a, b, c, d], _ =>
            rw [hb] at hd hc
            have := hd a (by simp)
            have := hd b (by simp)
            have := hd c (by simp)
            have := hd d (by simp)
            simp only [List.head?_cons, ne_eq, Option.some.injEq] at hc
            simp only [NumText.digitsVal, List.foldl_cons, List.foldl_nil]
            omega
        unfold valN at e
        split at e <;> omega
      · rw [numO_none (fun z => h4 z.2)]
  · rw [numO_none (fun z => o z.1), numO_none (fun z => o z.1)]
/-! ## the reading of a text -/
theorem lN_eq : lN = D_FORMS.map (·.1) := by decide +kernel
theorem mem_lN {w : Str} : w ∈ lN ↔ ∃ f, (w, f) ∈ D_FORMS := by
  rw [lN_eq, List.mem_map]
  exact ⟨fun ⟨p, h, e⟩ => ⟨p.2, by rw [← e]; exact h⟩, fun ⟨f, h⟩ => ⟨_, h, rfl⟩⟩
theorem len_spl (S : List Nat) : ∀ (l : List Nat) (k : Nat) (acc : List Nat), ∀ p ∈ TL.spl S k acc l, p.length ≤ acc.length + l.length
  | [], k, acc => fun p hp => by
    rw [TL.spl_nil, List.mem_singleton] at hp
    subst hp; simp
  | d :: l, 0, acc => fun p hp => by
    by_cases h : TL.pre S (d :: l) = true
    · rw [TL.spl_hit h, List.mem_cons] at hp
      rcases hp with e | hp
      · subst e; omega
      · have := len_spl S l _ [] p hp
        simp only [List.length_nil, List.length_cons] at this ⊢
        omega
    · rw [TL.spl_miss (by simpa using h)] at hp
      have := len_spl S l 0 _ p hp
      simp only [List.length_append, List.length_cons, List.length_nil] at this ⊢
      omega
  | d :: l, k + 1, acc => fun p hp => by
    rw [TL.spl_pass S (k + 1) acc (d :: l), List.drop_succ_cons, ← TL.spl_pass S k acc l] at hp
    have := len_spl S l k acc p hp
    simp only [List.length_cons]
    omega
theorem spl_ne (S : List Nat) : ∀ (l : List Nat) (k : Nat) (acc : List Nat), TL.spl S k acc l ≠ []
  | [], k, acc => by rw [TL.spl_nil]; simp
  | d :: l, 0, acc => by
    by_cases h : TL.pre S (d :: l) = true
    · rw [TL.spl_hit h]; simp
    · rw [TL.spl_miss (by simpa using h)]; exact spl_ne S l 0 _
  | d :: l, k + 1, acc => by
    rw [TL.spl_pass S (k + 1) acc (d :: l), List.drop_succ_cons, ← TL.spl_pass S k acc l]
    exact spl_ne S l k acc
abbrev words (t : Str) : List Str := Txt.split t (" " : Str)
theorem sp_ne : TL.tl (" " : Str) ≠ [] := by rw [show TL.tl (" " : Str) = [32] from cs_sp]; simp
theorem sp_k {t : Str} : ¬ Builtin.Str.strKind t < Builtin.Str.strKind (" " : Str) := TL.kind_ok (by decide +kernel)
theorem words_tl (t : Str) : (words t).map TL.tl = TL.spl [32] 0 [] (cs t) := by rw [TL.split_spl t _ sp_ne sp_k, show TL.tl (" " : Str) = [32] from cs_sp]
theorem words_ne (t : Str) : words t ≠ [] := fun e => by
  have := words_tl t
  rw [e] at this
  exact spl_ne _ _ _ _ this.symm
theorem word_len {t w : Str} (h : w ∈ words t) : w.length ≤ t.length := by
  have h1 : TL.tl w ∈ TL.spl [32] 0 [] (cs t) := by rw [← words_tl]; exact List.mem_map.mpr ⟨w, h, rfl⟩
  have := len_spl _ _ _ _ _ h1
  rw [len_cs, len_cs t]
  simpa using this
theorem words_len (t : Str) : (words t).length ≤ t.length + 2 := PyProof.Rows.split_le t _
theorem word_ok {t w : Str} (ht : tOk t) (h : w ∈ words t) : tOk w := tOk_split sp_ne sp_k ht w h
def regsL : List Str → Option (List Int)
  | [] => some []
  | w :: r => match regW w with
    | none => none
    | some x => match regsL r with
      | none => none
      | some xs => some (x :: xs)
noncomputable def resN (sh : Int × Int × Int × Int) (w l : Str) (xs : List Int) : Option (Str × List Int) := match numO 4 l with
  | some n => if sh.2.2.1 ≤ n ∧ n ≤ sh.2.2.2 then some (w, xs ++ [n]) else none
  | none => none
noncomputable def resB (sh : Int × Int × Int × Int) (w : Str) (r : List Str) : Option (Str × List Int) :=
  if (r.length : Int) = sh.1 + (if 0 < sh.2.1 then 1 else 0) then
    match regsL (r.take sh.1.toNat) with
    | none => none
    | some xs => if sh.2.1 = 0 then some (w, xs) else
      match r.getLast? with
      | some l => resN sh w l xs
      | none => none
  else none
noncomputable def res (t : Str) : Option (Str × List Int) := match words t with
  | [] => none
  | w :: r => match dlk D_FORMS w with
    | none => none
    | some f => match dlk D_SHAPES f with
      | none => none
      | some sh => resB sh w r
theorem digs : ∀ c : Nat, sg c ∈ ([("0" : Str), ("1" : Str), ("2" : Str), ("3" : Str), ("4" : Str), ("5" : Str), ("6" : Str), ("7" : Str)] : (List Str)) ↔ 48 ≤ c ∧ c ≤ 55 := fun c => by
  have e : ([("0" : Str), ("1" : Str), ("2" : Str), ("3" : Str), ("4" : Str), ("5" : Str), ("6" : Str), ("7" : Str)] : (List Str)) = [sg 48, sg 49, sg 50, sg 51, sg 52, sg 53, sg 54, sg 55] := by decide +kernel
  have i : ∀ d, sg c = sg d ↔ c = d := fun d => ⟨fun h => by have := congrArg cs h; simpa [cs_sg] using this, fun h => by rw [h]⟩
  rw [e]
  simp only [List.mem_cons, List.not_mem_nil, or_false, i]
  omega
theorem digs_sg {x : Str} (h : x ∈ ([("0" : Str), ("1" : Str), ("2" : Str), ("3" : Str), ("4" : Str), ("5" : Str), ("6" : Str), ("7" : Str)] : (List Str))) : ∃ c, x = sg c := by
  have e : ([("0" : Str), ("1" : Str), ("2" : Str), ("3" : Str), ("4" : Str), ("5" : Str), ("6" : Str), ("7" : Str)] : (List Str)) = [sg 48, sg 49, sg 50, sg 51, sg 52, sg 53, sg 54, sg 55] := by decide +kernel
  rw [e] at h
  simp only [List.mem_cons, List.not_mem_nil, or_false] at h
  rcases h with h | h | h | h | h | h | h | h <;> exact ⟨_, h⟩
theorem r_iff {w : Str} : cutS w none (some (1 : Int)) = ("r" : Str) ↔ (cs w).head? = some 114 := by
  constructor
  · intro h
    have := congrArg cs h
    rw [cs_to w (by omega), cs_r] at this
    cases e : cs w with
    | nil => rw [e] at this; cases this
    | cons a r => rw [e] at this; simpa using this
  · intro h
    refine ext_cs ?_
    rw [cs_to w (by omega), cs_r]
    cases e : cs w with
    | nil => rw [e] at h; cases h
    | cons a r => rw [e] at h; simpa using h
theorem reg_step {x : Str} (hl : x.length ≤ 600) {m : List Int} (hm : m.length ≤ 1000) {nx : List Int → Prop} {K0 : Prop} : (grd (x.length ≤ 100000) <|
  (if (cutS x none (some (1 : Int))) = ("r" : Str) then
  grd (x.length ≤ 100000) <|
  (if (cutS x (some (1 : Int)) none) ∈ ([("0" : Str), ("1" : Str), ("2" : Str), ("3" : Str), ("4" : Str), ("5" : Str), ("6" : Str), ("7" : Str)] : (List Str)) then
  grd (x.length ≤ 100000) <|
  grd ((cutS x (some (1 : Int)) none).length ≤ 640) <|
  obx (PySem.intText? (cutS x (some (1 : Int)) none)) fun n11 =>
  grd (m.length ≤ 100000) <|
  nx (m ++ [n11])
  else
  K0)
  else
  K0)) = match regW x with
    | some d => nx (m ++ [d])
    | none => K0 := by
  rw [grd_true (by omega)]
  by_cases h1 : (cs x).head? = some 114
  · rw [if_pos (r_iff.mpr h1), grd_true (by omega)]
    obtain ⟨t, e⟩ : ∃ t, cs x = 114 :: t := by
      cases e : cs x with
      | nil => rw [e] at h1; cases h1
      | cons a r => rw [e] at h1; simp at h1; exact ⟨r, by rw [h1]⟩
    have ec : cs (cutS x (some (1 : Int)) none) = t := by rw [cs_from, e]; rfl
    by_cases h2 : (cutS x (some (1 : Int)) none) ∈ ([("0" : Str), ("1" : Str), ("2" : Str), ("3" : Str), ("4" : Str), ("5" : Str), ("6" : Str), ("7" : Str)] : (List Str))
    · obtain ⟨c, hc⟩ := digs_sg h2
      have h3 := h2
      rw [hc] at h3
      have h4 := (digs c).mp h3
      rw [if_pos h2, grd_true (by omega), hc, grd_true (by rw [sg_len]; omega), int1 (by omega), obx_some, grd_true (by omega)]
      rw [hc, cs_sg] at ec
      have er : regW x = some ((c : Int) - 48) := by unfold regW; rw [e, ← ec]; exact if_pos ⟨rfl, h4⟩
      rw [er]
    · rw [if_neg h2]
      have er : regW x = none := by
        unfold regW
        rw [e]
        match t, ec with
        | [c], ec =>
          refine if_neg fun z => h2 ?_
          rw [show cutS x (some (1 : Int)) none = sg c from ext_cs (by rw [ec, cs_sg])]
          exact (digs c).mpr z.2
        | [], _ => rfl
        | _ :: _ :: _, _ => rfl
      rw [er]
  · rw [if_neg (fun z => h1 (r_iff.mp z))]
    have er : regW x = none := by
      unfold regW
      split
      · rename_i a c e
        refine if_neg fun z => h1 ?_
        rw [e, z.1]; rfl
      · rfl
    rw [er]
theorem regs_loop {k : List Int → Prop} {K0 : Prop} : ∀ (l : List Str) (m : List Int), (∀ x ∈ l, x.length ≤ 600) → m.length + l.length ≤ 1000 → forL l m (fun x6 (m7 : (List Int)) nx8 bk9 =>
  grd (x6.length ≤ 100000) <|
  (if (cutS x6 none (some (1 : Int))) = ("r" : Str) then
  grd (x6.length ≤ 100000) <|
  (if (cutS x6 (some (1 : Int)) none) ∈ ([("0" : Str), ("1" : Str), ("2" : Str), ("3" : Str), ("4" : Str), ("5" : Str), ("6" : Str), ("7" : Str)] : (List Str)) then
  grd (x6.length ≤ 100000) <|
  grd ((cutS x6 (some (1 : Int)) none).length ≤ 640) <|
  obx (PySem.intText? (cutS x6 (some (1 : Int)) none)) fun n11 =>
  grd (m7.length ≤ 100000) <|
  nx8 (m7 ++ [n11])
  else
  K0)
  else
  K0)) k = match regsL l with
    | some xs => k (m ++ xs)
    | none => K0
  | [], m, _, _ => by rw [forL_nil]; simp [regsL]
  | x :: l, m, hx, hm => by
    rw [forL_cons]
    rw [List.length_cons] at hm
    refine (reg_step (hx x (List.mem_cons_self ..)) (m := m) (by omega) (nx := fun m' => forL l m' _ k) (K0 := K0)).trans ?_
    unfold regsL
    cases e : regW x with
    | none => rfl
    | some d =>
      dsimp only
      rw [regs_loop l (m ++ [d]) (fun y hy => hx y (List.mem_cons_of_mem _ hy)) (by rw [List.length_append, List.length_singleton]; omega)]
      cases regsL l with
      | none => rfl
      | some xs => dsimp only; rw [List.append_assoc]; rfl
theorem regsL_len : ∀ {l : List Str} {xs : List Int}, regsL l = some xs → xs.length = l.length ∧ ∀ x ∈ xs, 0 ≤ x ∧ x ≤ 7
  | [], xs, h => by cases h; exact ⟨rfl, fun _ h => by cases h⟩
  | w :: l, xs, h => by
    unfold regsL at h
    cases e : regW w with
    | none => rw [e] at h; cases h
    | some x =>
      rw [e] at h
      dsimp only at h
      cases e2 : regsL l with
      | none => rw [e2] at h; cases h
      | some ys =>
        rw [e2] at h
        cases h
        obtain ⟨h1, h2⟩ := regsL_len e2
        refine ⟨by rw [List.length_cons, List.length_cons, h1], fun z hz => ?_⟩
        rcases List.mem_cons.mp hz with q | q
        · subst q
          unfold regW at e
          split at e
          · split at e
            · cases e; omega
            · cases e
          · cases e
        · exact h2 z q
theorem last_of {α : Type} {r : List α} (h : r ≠ []) : ∃ r' l, r = r' ++ [l] ∧ r.getLast? = some l := by
  refine ⟨r.dropLast, r.getLast h, (List.dropLast_concat_getLast h).symm, List.getLast?_eq_some_getLast h⟩
theorem resN_none {sh : Int × Int × Int × Int} {w l : Str} {xs : List Int} (h : numO 4 l = none) : resN sh w l xs = none := by unfold resN; rw [h]
theorem resN_some {sh : Int × Int × Int × Int} {w l : Str} {xs : List Int} {n : Int} (h : numO 4 l = some n) : resN sh w l xs = if sh.2.2.1 ≤ n ∧ n ≤ sh.2.2.2 then some (w, xs ++ [n]) else none := by unfold resN; rw [h]
theorem law_read_eq {t : Str} (hl : t.length ≤ 500) (ht : tOk t) {k : Option (List (Str ⊕ Int)) → Prop} : m__law_read t k = k ((res t).map fun p => (.inl p.1 :: p.2.map .inr)) := by
  unfold m__law_read
  rw [grd_true ⟨by omega, ht⟩]
  obtain ⟨w, r, e⟩ : ∃ w r, words t = w :: r := by
    cases h : words t with
    | nil => exact absurd h (words_ne t)
    | cons w r => exact ⟨w, r, rfl⟩
  have hall : ∀ x ∈ w :: r, x.length ≤ 600 ∧ tOk x := fun x hx => by
    rw [← e] at hx
    exact ⟨Nat.le_trans (word_len hx) (by omega), word_ok ht hx⟩
  have hrl : r.length ≤ 502 := by
    have := words_len t
    rw [e, List.length_cons] at this
    omega
  rw [show Txt.split t (" " : Str) = w :: r from e, atI_0, obx_some, names_eq]
  by_cases hin : w ∈ lN
  · obtain ⟨f, hp⟩ := mem_lN.mp hin
    obtain ⟨sh, hs⟩ := has_shape hp
    obtain ⟨b0, b3, bw⟩ := shape_bd hs
    rw [if_pos hin, obx_some, form_eq hp, shape_eq hs]
    have er : res t = resB sh w r := by
      unfold res
      rw [e]
      dsimp only
      rw [dlk_of hp]
      dsimp only
      rw [hs]
    rw [er]
    unfold resB
    have hlo : (if (!(lo sh).isNone) = true then (1 : Int) else (0 : Int)) = if 0 < sh.2.1 then 1 else 0 := by
      unfold lo
      by_cases z : sh.2.1 = 0
      · rw [if_pos z, if_neg (by decide), if_neg (by omega)]
      · rw [if_neg z, if_pos (by rfl), if_pos (by omega)]
    dsimp only
    rw [hlo]
    by_cases hn : (r.length : Int) = sh.1 + (if 0 < sh.2.1 then 1 else 0)
    · rw [if_pos (by rw [List.length_cons]; generalize (if 0 < sh.2.1 then (1 : Int) else 0) = W at hn; omega), if_pos hn]
      have hcut : cutA (w :: r) (some 1) (some (1 + sh.1)) = r.take sh.1.toNat := by
        rw [cutA_mid (by omega) (by omega), show (1 : Int).toNat = 1 from rfl, show (1 + sh.1).toNat - 1 = sh.1.toNat by omega, List.drop_one, List.tail_cons]
      rw [hcut, regs_loop _ _ (fun x hx => (hall x (List.mem_cons_of_mem _ (List.mem_of_mem_take hx))).1) (by rw [List.length_take]; simp; omega)]
      cases hx : regsL (r.take sh.1.toNat) with
      | none => rfl
      | some xs =>
        have hxl := (regsL_len hx).1
        rw [List.length_take] at hxl
        dsimp only
        rw [List.nil_append, jn_eq]
        by_cases z : sh.2.1 = 0
        · rw [show lo sh = none from if_pos z, if_pos (by rfl), if_pos z]
          dsimp only
          rw [obx_some, grd_true (by rw [List.length_map, List.length_singleton]; omega)]
          rfl
        · rw [show lo sh = some sh.2.2.1 from if_neg z, show hi sh = some sh.2.2.2 from if_neg z, if_neg (by simp), if_neg z]
          obtain ⟨r', l, e2, e3⟩ := last_of (r := r) (fun q => by
            rw [if_pos (by omega), q] at hn
            simp only [List.length_nil] at hn
            omega)
          rw [e3]
          have ha : atI (w :: r) (-(1 : Int)) = some l := by rw [e2, ← List.cons_append]; exact atI_m1
          have hlm := hall l (List.mem_cons_of_mem _ (by rw [e2]; exact List.mem_append_right _ (List.mem_singleton.mpr rfl)))
          rw [ha, obx_some, num_eq hlm.2 hlm.1]
          dsimp only
          cases hnum : numO 4 l with
          | none =>
            rw [resN_none hnum]
            rfl
          | some n =>
            rw [resN_some hnum, if_neg (by simp), obg_some, obg_some]
            by_cases c1 : sh.2.2.1 ≤ n
            · rw [if_pos c1, obg_some, obg_some]
              by_cases c2 : n ≤ sh.2.2.2
              · rw [if_pos c2, obg_some, grd_true (by omega), if_pos ⟨c1, c2⟩, obx_some, grd_true (by rw [List.length_map, List.length_append, List.length_singleton, List.length_singleton]; omega)]
                rfl
              · rw [if_neg c2, if_neg (fun q => c2 q.2)]; rfl
            · rw [if_neg c1, if_neg (fun q => c1 q.1)]; rfl
    · rw [if_neg (by rw [List.length_cons]; generalize (if 0 < sh.2.1 then (1 : Int) else 0) = W at hn; omega), if_neg hn]; rfl
  · rw [if_neg hin]
    have er : res t = none := by
      unfold res
      rw [e]
      dsimp only
      cases hd : dlk D_FORMS w with
      | none => rfl
      | some f => exact absurd (mem_lN.mpr ⟨f, dlk_in hd⟩) hin
    rw [er]; rfl

/-! ## the program's reading -/
theorem fm_map {α β : Type} (f : α → β) (l : List α) : (l.filterMap fun x => some (f x)) = l.map f := by
  induction l with
  | nil => rfl
  | cons x l ih =>
    show f x :: l.filterMap (fun x => some (f x)) = f x :: l.map f
    rw [ih]
def rOk : Option (Str ⊕ Int) → Bool
  | some (.inr n) => decide (0 ≤ n) && decide (n ≤ 7)
  | _ => false
def nOk (a b : Int) : Option (Str ⊕ Int) → Bool
  | some (.inr n) => decide (a ≤ n) && decide (n ≤ b)
  | _ => false
theorem cnt_step {z : Option (Str ⊕ Int)} {nx : Option Bool → Prop} : (m_is_count__V_o z fun r13 =>
  (if r13 = true then
  obg z fun w14 =>
  obu1 w14 fun w15 =>
  nx (some (decide (w15 ≤ (7 : Int))))
  else
  nx (some false))) = nx (some (rOk z)) := by
  unfold m_is_count__V_o m_is_integer__V_o
  match z with
  | none => rfl
  | some (.inl x) => rfl
  | some (.inr n) =>
    rw [if_pos (by rfl)]
    dsimp only [Bool.not_false]
    rw [if_pos (by rfl), obg_some, obu1_r]
    by_cases h : 0 ≤ n
    · rw [if_pos (by simpa using h), obg_some, obu1_r]
      simp [rOk, h]
    · rw [if_neg (by simpa using h)]
      simp [rOk, h]
theorem num_step {a b : Int} {z : Option (Str ⊕ Int)} {k : Bool → Prop} : (m_is_integer__V_o z fun r17 =>
  (if r17 = true then
  obx (some z) fun w18 =>
  obg w18 fun w19 =>
  obu1 w19 fun w20 =>
  (if a ≤ w20 then
  k (decide (w20 ≤ b))
  else
  k false)
  else
  k false)) = k (nOk a b z) := by
  unfold m_is_integer__V_o
  match z with
  | none => rfl
  | some (.inl x) => rfl
  | some (.inr n) =>
    rw [if_pos (by rfl)]
    dsimp only [Bool.not_false]
    rw [if_pos (by rfl), obx_some, obg_some, obu1_r]
    by_cases h : a ≤ n
    · rw [if_pos h]; simp [nOk, h]
    · rw [if_neg h]; simp [nOk, h]
def okv (sh : Int × Int × Int × Int) (zs : List (Option (Str ⊕ Int))) : Bool := decide ((zs.length : Int) = sh.1 + (if 0 < sh.2.1 then 1 else 0)) && ((zs.take sh.1.toNat).all rOk && (decide (sh.2.1 = 0) || (match zs.getLast? with
  | some z => nOk sh.2.2.1 sh.2.2.2 z
  | none => false)))
theorem isv_o {w f : Str} {sh : Int × Int × Int × Int} {zs : List (Option (Str ⊕ Int))} (hf : dlk D_FORMS w = some f) (hs : dlk D_SHAPES f = some sh) (hl : zs.length ≤ 1000) {k : Bool → Prop} : m_is_instruction_value__V_o (some (.inl w) :: zs) k = k (okv sh zs) := by
  obtain ⟨b0, b3, bw⟩ := shape_bd hs
  unfold m_is_instruction_value__V_o
  rw [if_neg (by rw [List.length_cons]; omega), atI_0, obx_some, if_pos (by rfl), obx_some, obg_some, obu0_l, if_pos (by rw [hf]; rfl), obx_some, obg_some, obu0_l, hf, obx_some, hs, obx_some]
  have hw : (if (decide ((0 : Int) < sh.2.1)) = true then (1 : Int) else (0 : Int)) = if 0 < sh.2.1 then 1 else 0 := by
    by_cases z : 0 < sh.2.1
    · rw [if_pos (by simpa using z), if_pos z]
    · rw [if_neg (by simpa using z), if_neg z]
  rw [hw]
  unfold okv
  by_cases hn : (zs.length : Int) = sh.1 + (if 0 < sh.2.1 then 1 else 0)
  · rw [if_pos (by rw [List.length_cons]; generalize (if 0 < sh.2.1 then (1 : Int) else 0) = W at hn; omega), decide_eq_true hn, Bool.true_and]
    have hcut : cutA (some (.inl w) :: zs) (some 1) (some (1 + sh.1)) = zs.take sh.1.toNat := by
      rw [cutA_mid (by omega) (by omega), show (1 : Int).toNat = 1 from rfl, show (1 + sh.1).toNat - 1 = sh.1.toNat by omega, List.drop_one, List.tail_cons]
    rw [hcut, grd_true (by rw [List.length_take]; omega), lcL_map (fun z => some (rOk z)) (fun z _ nx => cnt_step), List.nil_append]
    have hall : ((zs.take sh.1.toNat).filterMap fun z => some (rOk z)).all id = (zs.take sh.1.toNat).all rOk := by
      rw [fm_map, List.all_map]; rfl
    rw [hall]
    cases ha : (zs.take sh.1.toNat).all rOk with
    | false => rw [if_neg (by decide), Bool.false_and]
    | true =>
      rw [if_pos rfl, Bool.true_and]
      by_cases z : sh.2.1 = 0
      · rw [if_pos z, decide_eq_true z]; rfl
      · rw [if_neg z, decide_eq_false z, Bool.false_or]
        obtain ⟨r', l, e2, e3⟩ := last_of (r := zs) (fun q => by
          rw [if_pos (by omega), q] at hn
          simp only [List.length_nil] at hn
          omega)
        have hat : atI (some (.inl w) :: zs) (-(1 : Int)) = some l := by rw [e2, ← List.cons_append]; exact atI_m1
        rw [e3, hat, obx_some]
        exact num_step
  · rw [if_neg (by rw [List.length_cons]; generalize (if 0 < sh.2.1 then (1 : Int) else 0) = W at hn; omega), decide_eq_false hn, Bool.false_and]
theorem regs_all : ∀ (l : List Str), (l.map fun x => (regW x).map (.inr : Int → Str ⊕ Int)).all rOk = (regsL l).isSome ∧ ∀ xs, regsL l = some xs → (l.map fun x => (regW x).map (.inr : Int → Str ⊕ Int)) = xs.map fun n => some (.inr n)
  | [] => ⟨rfl, fun xs h => by cases h; rfl⟩
  | w :: l => by
    obtain ⟨h1, h2⟩ := regs_all l
    unfold regsL
    rw [List.map_cons, List.all_cons, h1]
    cases e : regW w with
    | none => exact ⟨rfl, fun xs h => by cases h⟩
    | some x =>
      have hx : 0 ≤ x ∧ x ≤ 7 := by
        have := (regsL_len (l := [w]) (xs := [x]) (by unfold regsL; rw [e]; rfl)).2 x (by simp)
        exact this
      have hr : rOk (some (.inr x)) = true := by simp [rOk, hx.1, hx.2]
      cases e2 : regsL l with
      | none => exact ⟨by simp, fun xs h => by cases h⟩
      | some ys =>
        refine ⟨?_, fun xs h => ?_⟩
        · show (rOk (some (.inr x)) && true) = true
          rw [hr]; rfl
        · cases h
          rw [h2 ys e2]; rfl
theorem bnds_all : (D_SHAPES.all fun p => decide (p.2.2.1 = 0 ∨ (-999 ≤ p.2.2.2.1 ∧ p.2.2.2.2 ≤ 999))) = true := by decide +kernel
theorem shape_num {f : Str} {sh : Int × Int × Int × Int} (h : dlk D_SHAPES f = some sh) : sh.2.1 = 0 ∨ (-999 ≤ sh.2.2.1 ∧ sh.2.2.2 ≤ 999) := of_decide_eq_true (List.all_eq_true.mp bnds_all _ (dlk_in h))
theorem wide_all : (D_SHAPES.all fun p => decide (p.2.2.1 = 0 ∨ 0 < p.2.2.1)) = true := by decide +kernel
theorem prog_eq {t : Str} (hl : t.length ≤ 500) (ht : tOk t) {k : Option (List (Option (Str ⊕ Int))) → Prop} : m_listing_instruction t k = k ((res t).map fun p => (some (.inl p.1) :: p.2.map fun n => some (.inr n))) := by
  unfold m_listing_instruction
  rw [grd_true ⟨by omega, ht⟩]
  obtain ⟨w, r, e⟩ : ∃ w r, words t = w :: r := by
    cases h : words t with
    | nil => exact absurd h (words_ne t)
    | cons w r => exact ⟨w, r, rfl⟩
  have hall : ∀ x ∈ w :: r, x.length ≤ 600 ∧ tOk x := fun x hx => by
    rw [← e] at hx
    exact ⟨Nat.le_trans (word_len hx) (by omega), word_ok ht hx⟩
  have hrl : r.length ≤ 502 := by
    have := words_len t
    rw [e, List.length_cons] at this
    omega
  rw [show Txt.split t (" " : Str) = w :: r from e, atI_0, obx_some]
  have er0 : res t = match dlk D_FORMS w with
    | none => none
    | some f => match dlk D_SHAPES f with
      | none => none
      | some sh => resB sh w r := by
    unfold res
    rw [e]
  cases hf : dlk D_FORMS w with
  | none =>
    rw [if_neg (by decide), er0, hf]; rfl
  | some f =>
    obtain ⟨sh, hs⟩ := has_shape (dlk_in hf)
    obtain ⟨b0, b3, bw⟩ := shape_bd hs
    have er : res t = resB sh w r := by rw [er0, hf]; dsimp only; rw [hs]
    have hcut : cutA (w :: r) (some 1) (some (1 + sh.1)) = r.take sh.1.toNat := by
      rw [cutA_mid (by omega) (by omega), show (1 : Int).toNat = 1 from rfl, show (1 + sh.1).toNat - 1 = sh.1.toNat by omega, List.drop_one, List.tail_cons]
    have hcut2 : cutA (w :: r) (some (1 + sh.1)) none = r.drop sh.1.toNat := by
      rw [cutA_from (by omega), show (1 + sh.1).toNat = sh.1.toNat + 1 by omega, List.drop_succ_cons]
    rw [if_pos (by rfl), obx_some, hf, obx_some, hs, obx_some, obx_some, hcut, hcut2, grd_true (by rw [List.length_take]; omega)]
    rw [lcL_map (fun x => some ((regW x).map .inr)) (fun x hx nx => reg_eq (Nat.le_trans (hall x (List.mem_cons_of_mem _ (List.mem_of_mem_take hx))).1 (by omega))), List.nil_append, fm_map (fun x => (regW x).map (.inr : Int → Str ⊕ Int))]
    rw [grd_true (by rw [List.length_map, List.length_take, List.length_singleton]; omega), grd_true (by rw [List.length_drop]; omega)]
    rw [lcL_map (fun x => some ((numO 3 x).map .inr)) (fun x hx nx => int_eq (hall x (List.mem_cons_of_mem _ (List.mem_of_mem_drop hx))).1), List.nil_append, fm_map (fun x => (numO 3 x).map (.inr : Int → Str ⊕ Int))]
    rw [grd_true (by rw [List.length_append, List.length_map, List.length_map, List.length_take, List.length_drop, List.length_singleton]; omega)]
    rw [List.singleton_append, List.cons_append, isv_o hf hs (by rw [List.length_append, List.length_map, List.length_map, List.length_take, List.length_drop]; omega), er]
    unfold okv resB
    have hlen : ((r.take sh.1.toNat).map (fun x => (regW x).map (.inr : Int → Str ⊕ Int)) ++ (r.drop sh.1.toNat).map (fun x => (numO 3 x).map (.inr : Int → Str ⊕ Int))).length = r.length := by
      rw [List.length_append, List.length_map, List.length_map, List.length_take, List.length_drop]; omega
    rw [hlen]
    by_cases hn : (r.length : Int) = sh.1 + (if 0 < sh.2.1 then 1 else 0)
    · rw [decide_eq_true hn, if_pos hn, Bool.true_and]
      have hge : sh.1.toNat ≤ r.length := by
        split at hn <;> omega
      rw [List.take_append_of_le_length (by rw [List.length_map, List.length_take]; omega), List.take_of_length_le (by rw [List.length_map, List.length_take]; omega)]
      obtain ⟨g1, g2⟩ := regs_all (r.take sh.1.toNat)
      rw [g1]
      cases hx : regsL (r.take sh.1.toNat) with
      | none => rfl
      | some xs =>
        rw [g2 xs hx]
        dsimp only
        by_cases z : sh.2.1 = 0
        · have hd : r.drop sh.1.toNat = [] := List.drop_eq_nil_of_le (by rw [if_neg (by omega)] at hn; omega)
          rw [decide_eq_true z, if_pos z, hd, List.map_nil, List.append_nil]
          rfl
        · rw [decide_eq_false z, if_neg z]
          obtain ⟨r', l, e2, e3⟩ := last_of (r := r) (fun q => by
            rw [if_pos (by omega), q] at hn
            simp only [List.length_nil] at hn
            omega)
          have hd : r.drop sh.1.toNat = [l] := by
            rw [if_pos (by omega)] at hn
            rw [e2] at hn ⊢
            rw [List.length_append, List.length_singleton] at hn
            rw [List.drop_append_of_le_length (by omega), List.drop_eq_nil_of_le (by omega)]; rfl
          rw [e3, hd, List.map_singleton, List.getLast?_append, List.getLast?_singleton]
          obtain ⟨q1, q2⟩ := (shape_num hs).resolve_left z
          dsimp only
          have key : (∃ n, numO 3 l = some n ∧ sh.2.2.1 ≤ n ∧ n ≤ sh.2.2.2) ∨ ¬ ∃ n, numO 3 l = some n ∧ sh.2.2.1 ≤ n ∧ n ≤ sh.2.2.2 := Classical.em _
          rcases key with ⟨n, h3, c1, c2⟩ | no
          · have h4 := (numO_34 (by omega)).mp h3
            have e4 : resN sh w l xs = some (w, xs ++ [n]) := by rw [resN_some h4]; exact if_pos ⟨c1, c2⟩
            rw [e4, h3]
            show (if nOk sh.2.2.1 sh.2.2.2 (some (.inr n)) = true then _ else _) = _
            rw [if_pos (by simp [nOk, c1, c2])]
            show k (some _) = k (some _)
            dsimp only
            rw [List.map_append]; rfl
          · have e4 : resN sh w l xs = none := by
              cases h4 : numO 4 l with
              | none => exact resN_none h4
              | some n =>
                rw [resN_some h4]
                exact if_neg fun q => no ⟨n, (numO_34 (by omega)).mpr h4, q.1, q.2⟩
            rw [e4]
            cases h3 : numO 3 l with
            | none => rfl
            | some n =>
              show (if nOk sh.2.2.1 sh.2.2.2 (some (.inr n)) = true then _ else _) = _
              rw [if_neg (fun q => no ⟨n, h3, by simpa [nOk] using q⟩)]
              rfl
    · rw [decide_eq_false hn, if_neg hn]; rfl

/-! ## an instruction's parts and its text -/
theorem vld_parts {n f : Str} {ps : List Int} (v : Vld n f ps) : ∃ sh xs tail, dlk D_SHAPES f = some sh ∧ ps = xs ++ tail ∧ xs.length = sh.1.toNat ∧ (∀ x ∈ xs, 0 ≤ x ∧ x ≤ 7) ∧ ((sh.2.1 = 0 ∧ tail = []) ∨ (sh.2.1 ≠ 0 ∧ ∃ x, tail = [x] ∧ sh.2.2.1 ≤ x ∧ x ≤ sh.2.2.2)) := by
  obtain ⟨sh, hs, hl, hr, hw⟩ := v
  obtain ⟨b0, b3, bw⟩ := shape_bd hs
  have hle : sh.1.toNat ≤ ps.length := by split at hl <;> omega
  refine ⟨sh, ps.take sh.1.toNat, ps.drop sh.1.toNat, hs, (List.take_append_drop _ _).symm, by rw [List.length_take]; omega, hr, ?_⟩
  by_cases z : sh.2.1 = 0
  · refine .inl ⟨z, List.drop_eq_nil_of_le ?_⟩
    rw [if_neg (by omega)] at hl
    omega
  · refine .inr ⟨z, ?_⟩
    obtain ⟨x, hx, h1, h2⟩ := hw.resolve_left z
    refine ⟨x, ?_, h1, h2⟩
    rw [if_pos (by omega)] at hl
    obtain ⟨r', l, e2, e3⟩ := last_of (r := ps) (fun q => by rw [q] at hx; cases hx)
    rw [hx] at e3
    cases e3
    rw [e2] at hl ⊢
    rw [List.length_append, List.length_singleton] at hl
    rw [List.drop_append_of_le_length (by omega), List.drop_eq_nil_of_le (by omega)]; rfl
theorem names_szd : (D_FORMS.all fun p => (PyData.showable (.str p.1) && !PyData.hasDict (.str p.1) && PyData.leavesShort 13 (.str p.1) && decide (PyData.weight (.str p.1) ≤ 1000) && decide (PyData.depth (.str p.1) ≤ 0)) && decide (p.1.length ≤ 20) && PyData.strOk p.1 && !decide (32 ∈ cs p.1)) = true := by decide +kernel
theorem shwP {n f : Str} {ps : List Int} (hp : (n, f) ∈ D_FORMS) (hl : ps.length ≤ 10) (hb : ∀ x ∈ ps, x.natAbs < 10 ^ 12) : Shw (.tuple ((.inl n :: ps.map .inr : List (Str ⊕ Int)).map fun z => uD z)) := by
  refine (szd_tuple (w := 1000) (n := 0) fun d hd => ?_).shw (by simp; omega) (by omega)
  obtain ⟨z, hz, rfl⟩ := List.mem_map.mp hd
  rcases List.mem_cons.mp hz with rfl | hz
  · have := List.all_eq_true.mp names_szd _ hp
    simp only [Bool.and_eq_true] at this
    exact szd_str (by simp only [Bool.and_eq_true]; exact this.1.1.1)
  · obtain ⟨x, hx, rfl⟩ := List.mem_map.mp hz
    exact (szd_int (hb x hx)).mono
theorem name_facts {n f : Str} (hp : (n, f) ∈ D_FORMS) : n.length ≤ 20 ∧ tOk n ∧ 32 ∉ cs n := by
  have := List.all_eq_true.mp names_szd _ hp
  simp only [Bool.and_eq_true, Bool.not_eq_true', decide_eq_false_iff_not, decide_eq_true_eq] at this
  exact ⟨this.1.1.2, this.1.2, this.2⟩
theorem vld_bd {n f : Str} {ps : List Int} (v : Vld n f ps) : ps.length ≤ 4 ∧ ∀ x ∈ ps, x.natAbs ≤ 999 := by
  obtain ⟨sh, xs, tail, hs, e, hl, hr, ht⟩ := vld_parts v
  obtain ⟨b0, b3, bw⟩ := shape_bd hs
  subst e
  rcases ht with ⟨_, e⟩ | ⟨z, x, e, h1, h2⟩
  · subst e
    rw [List.append_nil]
    exact ⟨by omega, fun x hx => by have := hr x hx; omega⟩
  · subst e
    obtain ⟨q1, q2⟩ := (shape_num hs).resolve_left z
    refine ⟨by rw [List.length_append, List.length_singleton]; omega, fun y hy => ?_⟩
    rcases List.mem_append.mp hy with hy | hy
    · have := hr y hy; omega
    · rw [List.mem_singleton] at hy; subst hy; omega
def tS (x : Int) : Str := (toString x : Str)
def rT (x : Int) : Str := ("r" : Str) ++ (toString x : Str)
theorem cs_tS (x : Int) : (∃ n : Nat, x = n ∧ cs (tS x) = TL.numL n) ∨ ∃ n : Nat, 0 < n ∧ x = -(n : Int) ∧ cs (tS x) = 45 :: TL.numL n := by
  by_cases h : 0 ≤ x
  · refine .inl ⟨x.toNat, by omega, ?_⟩
    have := cs_nat x.toNat
    rw [show ((x.toNat : Nat) : Int) = x by omega] at this
    exact this
  · refine .inr ⟨x.natAbs, by omega, by omega, ?_⟩
    have := cs_neg (n := x.natAbs) (by omega)
    rw [show (-((x.natAbs : Nat) : Int)) = x by omega] at this
    exact this
theorem tS_sign {x : Int} {c : Nat} (h : c ∈ cs (tS x)) : c = 45 ∨ (48 ≤ c ∧ c ≤ 57) := by
  rcases cs_tS x with ⟨n, _, e⟩ | ⟨n, _, _, e⟩
  · rw [e] at h; exact .inr (TL.numL_digits n c h)
  · rw [e] at h
    rcases List.mem_cons.mp h with q | q
    · exact .inl q
    · exact .inr (TL.numL_digits n c q)
theorem tS_ok {x : Int} : tOk (tS x) := tOk_iff.mpr fun c hc => by have := tS_sign hc; omega
theorem rT_ok {x : Int} : tOk (rT x) := tOk_iff.mpr fun c hc => by
  have hc : c ∈ cs (rT x) := hc
  unfold rT at hc
  rw [cs_add, cs_r] at hc
  rcases List.mem_append.mp hc with q | q
  · rw [List.mem_singleton] at q; omega
  · have := tS_sign q; omega
theorem tS_len {x : Int} (h : x.natAbs ≤ 999) : (tS x).length ≤ 5 := by
  rw [len_cs]
  rcases cs_tS x with ⟨n, e1, e⟩ | ⟨n, _, e1, e⟩
  · rw [e]
    have := TL.numL_len (n := n) (k := 3) (by omega) (by omega)
    omega
  · rw [e, List.length_cons]
    have := TL.numL_len (n := n) (k := 3) (by omega) (by omega)
    omega
theorem rT_len {x : Int} (h : x.natAbs ≤ 999) : (rT x).length ≤ 6 := by
  have h1 := tS_len h
  rw [len_cs] at h1 ⊢
  unfold rT
  rw [cs_add, cs_r, List.length_append]
  simp only [List.length_singleton]
  show 1 + (cs (tS x)).length ≤ 6
  omega
theorem reg_rT {x : Int} (h : 0 ≤ x ∧ x ≤ 7) : regW (rT x) = some x := by
  have e : cs (rT x) = [114, 48 + x.toNat] := by
    unfold rT
    rw [cs_add, cs_r]
    rcases cs_tS x with ⟨n, e1, e⟩ | ⟨n, h0, e1, e⟩
    · show [114] ++ cs (tS x) = _
      rw [e, TL.numL_lt (by omega)]
      have : n = x.toNat := by omega
      rw [this]; rfl
    · omega
  unfold regW
  rw [e]
  dsimp only
  rw [if_pos (by omega)]
  congr 1
  omega
theorem num_tS {x : Int} (h : x.natAbs ≤ 999) : numO 4 (tS x) = some x := by
  rcases cs_tS x with ⟨n, e1, e⟩ | ⟨n, h0, e1, e⟩
  · have hh : (TL.numL n).head? ≠ some 45 := fun z => by
      cases q : TL.numL n with
      | nil => exact TL.numL_ne n q
      | cons a r =>
        rw [q] at z
        have := TL.numL_digits n a (by rw [q]; simp)
        simp at z; omega
    have hb : body (tS x) = TL.numL n := by unfold body; rw [e, if_neg hh]
    have ok : okN (tS x) := by
      refine ⟨by rw [hb]; exact TL.numL_digits n, by rw [hb]; exact TL.numL_ne n, ?_⟩
      by_cases z : n = 0
      · subst z; exact .inr (by rw [e, numL_0])
      · obtain ⟨c, r, q, hc⟩ := numL_head n z
        refine .inl ?_
        rw [hb, q]
        simp only [List.head?_cons, ne_eq, Option.some.injEq]
        omega
    rw [numO_some ok (by rw [hb]; have := TL.numL_len (n := n) (k := 3) (by omega) (by omega); omega)]
    unfold valN
    rw [e, if_neg hh, hb, TL.numL_val, e1]
  · have hh : (45 :: TL.numL n).head? = some 45 := rfl
    have hb : body (tS x) = TL.numL n := by unfold body; rw [e, if_pos hh]; rfl
    have ok : okN (tS x) := by
      refine ⟨by rw [hb]; exact TL.numL_digits n, by rw [hb]; exact TL.numL_ne n, ?_⟩
      obtain ⟨c, r, q, hc⟩ := numL_head n (by omega)
      refine .inl ?_
      rw [hb, q]
      simp only [List.head?_cons, ne_eq, Option.some.injEq]
      omega
    rw [numO_some ok (by rw [hb]; have := TL.numL_len (n := n) (k := 3) (by omega) (by omega); omega)]
    unfold valN
    rw [e, if_pos hh, hb, TL.numL_val, e1]
def parts (n : Str) (xs tail : List Int) : List Str := ([n] ++ xs.map rT) ++ tail.map tS
def txt (n : Str) (xs tail : List Int) : Str := Txt.join (" " : Str) (parts n xs tail)
theorem joinL_len : ∀ l : List (List Nat), (TL.joinL [32] l).length ≤ (l.map (·.length)).sum + l.length
  | [] => by simp [TL.joinL]
  | [p] => by simp [TL.joinL]
  | p :: q :: r => by
    have := joinL_len (q :: r)
    show (p ++ ([32] ++ TL.joinL [32] (q :: r))).length ≤ _
    rw [List.length_append, List.length_append, List.map_cons, List.sum_cons]
    simp only [List.length_cons, List.length_nil] at this ⊢
    omega
theorem joinL_mem : ∀ (l : List (List Nat)) (c : Nat), c ∈ TL.joinL [32] l → c = 32 ∨ ∃ p ∈ l, c ∈ p
  | [], c, h => by cases h
  | [p], c, h => .inr ⟨p, by simp, h⟩
  | p :: q :: r, c, h => by
    have h : c ∈ p ++ ([32] ++ TL.joinL [32] (q :: r)) := h
    rcases List.mem_append.mp h with h | h
    · exact .inr ⟨p, by simp, h⟩
    · rcases List.mem_append.mp h with h | h
      · exact .inl (by simpa using h)
      · rcases joinL_mem (q :: r) c h with h | ⟨z, hz, hc⟩
        · exact .inl h
        · exact .inr ⟨z, List.mem_cons_of_mem _ hz, hc⟩
theorem cs_join (l : List Str) : cs (Txt.join (" " : Str) l) = TL.joinL [32] (l.map cs) := by
  rw [TL.join_eq]
  have := TL.tl_join (" " : Str) l
  rw [show TL.tl (" " : Str) = [32] from cs_sp] at this
  exact this

structure Prt (n f : Str) (sh : Int × Int × Int × Int) (xs tail : List Int) : Prop where
  hp : (n, f) ∈ D_FORMS
  hs : dlk D_SHAPES f = some sh
  hl : xs.length = sh.1.toNat
  hr : ∀ x ∈ xs, 0 ≤ x ∧ x ≤ 7
  ht : (sh.2.1 = 0 ∧ tail = []) ∨ (sh.2.1 ≠ 0 ∧ ∃ x, tail = [x] ∧ sh.2.2.1 ≤ x ∧ x ≤ sh.2.2.2)
theorem Prt.bd {n f : Str} {sh : Int × Int × Int × Int} {xs tail : List Int} (p : Prt n f sh xs tail) : xs.length ≤ 3 ∧ tail.length ≤ 1 ∧ ∀ x ∈ tail, x.natAbs ≤ 999 := by
  obtain ⟨b0, b3, bw⟩ := shape_bd p.hs
  have := p.hl
  refine ⟨by omega, ?_, ?_⟩
  · rcases p.ht with ⟨_, e⟩ | ⟨_, x, e, _⟩ <;> subst e <;> simp
  · rcases p.ht with ⟨_, e⟩ | ⟨z, x, e, h1, h2⟩
    · subst e; simp
    · obtain ⟨q1, q2⟩ := (shape_num p.hs).resolve_left z
      subst e
      intro y hy
      rw [List.mem_singleton] at hy
      subst hy; omega
theorem parts_mem {n : Str} {xs tail : List Int} {p : Str} (h : p ∈ parts n xs tail) : p = n ∨ (∃ x ∈ xs, p = rT x) ∨ ∃ x ∈ tail, p = tS x := by
  unfold parts at h
  rw [List.mem_append, List.mem_append, List.mem_singleton, List.mem_map, List.mem_map] at h
  rcases h with (h | ⟨x, hx, h⟩) | ⟨x, hx, h⟩
  · exact .inl h
  · exact .inr (.inl ⟨x, hx, h.symm⟩)
  · exact .inr (.inr ⟨x, hx, h.symm⟩)
theorem parts_ok {n f : Str} {sh : Int × Int × Int × Int} {xs tail : List Int} (q : Prt n f sh xs tail) : ∀ p ∈ parts n xs tail, p.length ≤ 20 ∧ tOk p ∧ 32 ∉ cs p := fun p hp => by
  obtain ⟨n1, n2, n3⟩ := name_facts q.hp
  obtain ⟨b1, b2, b3⟩ := q.bd
  rcases parts_mem hp with e | ⟨x, hx, e⟩ | ⟨x, hx, e⟩
  · rw [e]; exact ⟨n1, n2, n3⟩
  · have := q.hr x hx
    rw [e]
    refine ⟨Nat.le_trans (rT_len (by omega)) (by omega), rT_ok, fun h => ?_⟩
    unfold rT at h
    rw [cs_add, cs_r] at h
    rcases List.mem_append.mp h with z | z
    · simp at z
    · have := tS_sign z; omega
  · rw [e]
    refine ⟨Nat.le_trans (tS_len (b3 x hx)) (by omega), tS_ok, fun h => ?_⟩
    have := tS_sign h; omega
theorem parts_count {n f : Str} {sh : Int × Int × Int × Int} {xs tail : List Int} (q : Prt n f sh xs tail) : (parts n xs tail).length ≤ 5 := by
  obtain ⟨b1, b2, b3⟩ := q.bd
  unfold parts
  rw [List.length_append, List.length_append, List.length_map, List.length_map, List.length_singleton]
  omega
theorem sum_le {l : List Str} {b : Nat} (h : ∀ p ∈ l, p.length ≤ b) : (l.map (·.length)).sum ≤ l.length * b := by
  induction l with
  | nil => simp
  | cons x l ih =>
    have h1 := h x (List.mem_cons_self ..)
    have h2 := ih fun p hp => h p (List.mem_cons_of_mem _ hp)
    rw [List.map_cons, List.sum_cons, List.length_cons, Nat.succ_mul]
    omega
theorem parts_sum {n f : Str} {sh : Int × Int × Int × Int} {xs tail : List Int} (q : Prt n f sh xs tail) : ((parts n xs tail).map (·.length)).sum + (parts n xs tail).length ≤ 105 := by
  have h1 := sum_le (l := parts n xs tail) (b := 20) fun p hp => (parts_ok q p hp).1
  have h2 := parts_count q
  omega
theorem txt_len {n f : Str} {sh : Int × Int × Int × Int} {xs tail : List Int} (q : Prt n f sh xs tail) : (txt n xs tail).length ≤ 105 := by
  have h := parts_sum q
  rw [len_cs]
  unfold txt
  rw [cs_join]
  refine Nat.le_trans (joinL_len _) ?_
  rw [List.length_map, List.map_map]
  have e : (parts n xs tail).map ((fun x : List Nat => x.length) ∘ cs) = (parts n xs tail).map (·.length) := List.map_congr_left fun p _ => (len_cs p).symm
  rw [e]
  exact h
theorem txt_ok {n f : Str} {sh : Int × Int × Int × Int} {xs tail : List Int} (q : Prt n f sh xs tail) : tOk (txt n xs tail) := tOk_iff.mpr fun c hc => by
  have hc : c ∈ cs (txt n xs tail) := hc
  unfold txt at hc
  rw [cs_join] at hc
  rcases joinL_mem _ c hc with h | ⟨z, hz, h⟩
  · omega
  · obtain ⟨p, hp, e⟩ := List.mem_map.mp hz
    subst e
    exact tOk_iff.mp (parts_ok q p hp).2.1 c h
theorem txt_words {n f : Str} {sh : Int × Int × Int × Int} {xs tail : List Int} (q : Prt n f sh xs tail) : words (txt n xs tail) = parts n xs tail :=
  TL.split_join (s := 32) (S := []) cs_sp (by decide +kernel) (by unfold parts; simp) fun p hp => (parts_ok q p hp).2.2
theorem txt_pos {n f : Str} {sh : Int × Int × Int × Int} {xs tail : List Int} (q : Prt n f sh xs tail) : txt n xs tail ≠ ("" : Str) := fun e => by
  have h := txt_words q
  rw [e] at h
  have : words ("" : Str) = [("" : Str)] := by decide +kernel
  rw [this] at h
  have hn : n = ("" : Str) := by
    unfold parts at h
    simp only [List.singleton_append, List.cons_append, List.cons.injEq] at h
    exact h.1.symm
  have hp := q.hp
  rw [hn] at hp
  have : (D_FORMS.all fun p => decide (p.1 ≠ ("" : Str))) = true := by decide +kernel
  exact of_decide_eq_true (List.all_eq_true.mp this _ hp) rfl
theorem regsL_rT : ∀ {xs : List Int}, (∀ x ∈ xs, 0 ≤ x ∧ x ≤ 7) → regsL (xs.map rT) = some xs
  | [], _ => rfl
  | x :: xs, h => by
    show (match regW (rT x) with
      | none => none
      | some y => match regsL (xs.map rT) with
        | none => none
        | some ys => some (y :: ys)) = _
    rw [reg_rT (h x (List.mem_cons_self ..)), regsL_rT fun y hy => h y (List.mem_cons_of_mem _ hy)]
theorem res_txt {n f : Str} {sh : Int × Int × Int × Int} {xs tail : List Int} (q : Prt n f sh xs tail) : res (txt n xs tail) = some (n, xs ++ tail) := by
  obtain ⟨b0, b3, bw⟩ := shape_bd q.hs
  unfold res
  rw [txt_words q]
  show (match dlk D_FORMS n with
    | none => none
    | some f => match dlk D_SHAPES f with
      | none => none
      | some sh => resB sh n (xs.map rT ++ tail.map tS)) = _
  rw [dlk_of q.hp]
  dsimp only
  rw [q.hs]
  dsimp only
  unfold resB
  have hl := q.hl
  have hn : ((xs.map rT ++ tail.map tS).length : Int) = sh.1 + (if 0 < sh.2.1 then 1 else 0) := by
    rw [List.length_append, List.length_map, List.length_map]
    rcases q.ht with ⟨z, e⟩ | ⟨z, x, e, _⟩
    · subst e; rw [if_neg (by omega)]; simp; omega
    · subst e; rw [if_pos (by omega)]; simp; omega
  rw [if_pos hn, List.take_append_of_le_length (by rw [List.length_map]; omega), List.take_of_length_le (by rw [List.length_map]; omega), regsL_rT q.hr]
  dsimp only
  rcases q.ht with ⟨z, e⟩ | ⟨z, x, e, h1, h2⟩
  · subst e; rw [if_pos z, List.append_nil]
  · subst e
    rw [if_neg z, List.map_singleton, List.getLast?_append, List.getLast?_singleton]
    show resN sh n (tS x) xs = _
    rw [resN_some (num_tS (q.bd.2.2 x (by simp))), if_pos ⟨h1, h2⟩]
theorem res_prt {t w : Str} {ps : List Int} (h : res t = some (w, ps)) : ∃ f sh xs tail, ps = xs ++ tail ∧ Prt w f sh xs tail := by
  unfold res at h
  cases e : words t with
  | nil => rw [e] at h; cases h
  | cons w' r =>
    rw [e] at h
    dsimp only at h
    cases hf : dlk D_FORMS w' with
    | none => rw [hf] at h; cases h
    | some f =>
      rw [hf] at h
      dsimp only at h
      cases hs : dlk D_SHAPES f with
      | none => rw [hs] at h; cases h
      | some sh =>
        rw [hs] at h
        dsimp only at h
        obtain ⟨b0, b3, bw⟩ := shape_bd hs
        unfold resB at h
        by_cases hn : (r.length : Int) = sh.1 + (if 0 < sh.2.1 then 1 else 0)
        · rw [if_pos hn] at h
          have hge : sh.1.toNat ≤ r.length := by split at hn <;> omega
          cases hx : regsL (r.take sh.1.toNat) with
          | none => rw [hx] at h; cases h
          | some xs =>
            obtain ⟨g1, g2⟩ := regsL_len hx
            rw [List.length_take] at g1
            rw [hx] at h
            dsimp only at h
            by_cases z : sh.2.1 = 0
            · rw [if_pos z] at h
              cases h
              exact ⟨f, sh, _, [], (List.append_nil _).symm, dlk_in hf, hs, by omega, g2, .inl ⟨z, rfl⟩⟩
            · rw [if_neg z] at h
              cases hl : r.getLast? with
              | none => rw [hl] at h; cases h
              | some l =>
                rw [hl] at h
                dsimp only at h
                cases hnum : numO 4 l with
                | none => rw [resN_none hnum] at h; cases h
                | some n =>
                  rw [resN_some hnum] at h
                  by_cases c : sh.2.2.1 ≤ n ∧ n ≤ sh.2.2.2
                  · rw [if_pos c] at h
                    cases h
                    exact ⟨f, sh, xs, [n], rfl, dlk_in hf, hs, by omega, g2, .inr ⟨z, n, rfl, c.1, c.2⟩⟩
                  · rw [if_neg c] at h; cases h
        · rw [if_neg hn] at h; cases h
theorem prt_shw {n f : Str} {sh : Int × Int × Int × Int} {xs tail : List Int} (q : Prt n f sh xs tail) : Shw (.tuple ((.inl n :: (xs ++ tail).map .inr : List (Str ⊕ Int)).map fun z => uD z)) := by
  obtain ⟨b1, b2, b3⟩ := q.bd
  refine shwP q.hp (by rw [List.length_append]; omega) fun x hx => ?_
  rcases List.mem_append.mp hx with h | h
  · have := q.hr x h; omega
  · have := b3 x h; omega
theorem same_tup (w : Str) (ps : List Int) : (PyData.tuple ((some (.inl w) :: ps.map fun n => some (.inr n) : List (Option (Str ⊕ Int))).map fun z => (optD (fun z => (uD z)) z))) = .tuple ((.inl w :: ps.map .inr : List (Str ⊕ Int)).map fun z => uD z) := by
  rw [List.map_cons, List.map_cons, List.map_map, List.map_map]
  rfl
theorem same_opt (o : Option (Str × List Int)) : optD (fun z : List (Option (Str ⊕ Int)) => (.tuple (z.map fun z => (optD (fun z => (uD z)) z)))) (o.map fun p => (some (.inl p.1) :: p.2.map fun n => some (.inr n))) = optD (fun z : List (Str ⊕ Int) => (.tuple (z.map fun z => (uD z)))) (o.map fun p => (.inl p.1 :: p.2.map .inr)) := by
  cases o with
  | none => rfl
  | some p => exact same_tup p.1 p.2
theorem res_shw (t : Str) : Shw (optD (fun z : List (Str ⊕ Int) => (.tuple (z.map fun z => (uD z)))) ((res t).map fun p => (.inl p.1 :: p.2.map .inr))) := by
  cases h : res t with
  | none => exact szd_none.shw (by omega) (by omega)
  | some p =>
    obtain ⟨w, ps⟩ := p
    obtain ⟨f, sh, xs, tail, e, q⟩ := res_prt h
    subst e
    exact prt_shw q

theorem lc_inr {α β : Type} {xs : List Int} {k : List β → Prop} (g : Int → β) {B : Int → (Option β → Prop) → Prop} (h : ∀ x ∈ xs, ∀ nx, B x nx = nx (some (g x))) : lcL (xs.map (.inr : Int → Str ⊕ Int)) [] (fun z nx => obu1 z fun w => B w nx) k = k (xs.map g) := by
  rw [lcL_map (fun z : Str ⊕ Int => match z with
    | .inl _ => none
    | .inr x => some (g x)) (fun z hz nx => by
      obtain ⟨x, hx, rfl⟩ := List.mem_map.mp hz
      rw [obu1_r]
      exact h x hx nx), List.nil_append, List.filterMap_map]
  exact congrArg k (fm_map g xs)
theorem told_cut {n f : Str} {sh : Int × Int × Int × Int} {xs tail : List Int} (q : Prt n f sh xs tail) : cutA ((.inl n : Str ⊕ Int) :: (xs ++ tail).map .inr) (some 1) (some (1 + sh.1)) = xs.map .inr ∧ cutA ((.inl n : Str ⊕ Int) :: (xs ++ tail).map .inr) (some (1 + sh.1)) none = tail.map .inr := by
  obtain ⟨b0, b3, bw⟩ := shape_bd q.hs
  have hl := q.hl
  constructor
  · rw [cutA_mid (by omega) (by omega), show (1 : Int).toNat = 1 from rfl, show (1 + sh.1).toNat - 1 = sh.1.toNat by omega, List.drop_one, List.tail_cons, List.map_append, List.take_append_of_le_length (by rw [List.length_map]; omega), List.take_of_length_le (by rw [List.length_map]; omega)]
  · rw [cutA_from (by omega), show (1 + sh.1).toNat = sh.1.toNat + 1 by omega, List.drop_succ_cons, List.map_append, List.drop_append_of_le_length (by rw [List.length_map]; omega), List.drop_eq_nil_of_le (by rw [List.length_map]; omega), List.nil_append]
theorem listing_eq {n f : Str} {sh : Int × Int × Int × Int} {xs tail : List Int} (q : Prt n f sh xs tail) {k : Str → Prop} : m_listing_text (.inl n :: (xs ++ tail).map .inr) k = k (txt n xs tail) := by
  obtain ⟨c1, c2⟩ := told_cut q
  obtain ⟨b1, b2, b3⟩ := q.bd
  unfold m_listing_text
  rw [atI_0, obx_some, obu0_l, dlk_of q.hp, obx_some, q.hs, obx_some, obx_some, obu0_l, c1, c2, grd_true (by rw [List.length_map]; omega)]
  rw [lc_inr (α := Unit) rT (fun x hx nx => by
    have := q.hr x hx
    rw [grd_true (by omega), grd_true (show tOk (("r" : Str) ++ (toString x : Str)) from rT_ok)]; rfl)]
  rw [grd_true (by rw [List.length_map, List.length_singleton]; omega), grd_true (by rw [List.length_map]; omega)]
  rw [lc_inr (α := Unit) tS (fun x hx nx => by
    have := b3 x hx
    rw [grd_true (by omega), grd_true (show tOk (toString x : Str) from tS_ok)]; rfl)]
  rw [grd_true (by rw [List.length_append, List.length_map, List.length_map, List.length_singleton]; omega)]
  have hs : ((([n] ++ xs.map rT) ++ tail.map tS).map (·.length)).sum + (([n] ++ xs.map rT) ++ tail.map tS).length ≤ 1000000 := Nat.le_trans (parts_sum q) (by omega)
  rw [grd_true hs]
  rfl
theorem want_eq {n f : Str} {sh : Int × Int × Int × Int} {xs tail : List Int} (q : Prt n f sh xs tail) {k : Str → Prop} : m_text_of (.inl n :: (xs ++ tail).map .inr) k = k (txt n xs tail) := by
  have v : Vld n f (xs ++ tail) := by
    rcases q.ht with ⟨z, e⟩ | ⟨z, x, e, h1, h2⟩
    · subst e; rw [List.append_nil]; exact vld_bare q.hs z q.hl q.hr
    · subst e; exact vld_num q.hs z q.hl q.hr h1 h2
  unfold m_text_of
  rw [Vld.want q.hp v]
  exact listing_eq q
theorem ltext_eq {n f : Str} {sh : Int × Int × Int × Int} {xs tail : List Int} (q : Prt n f sh xs tail) {k : Str → Prop} : m__law_text (.inl n :: (xs ++ tail).map .inr) k = k (txt n xs tail) := by
  obtain ⟨c1, c2⟩ := told_cut q
  obtain ⟨b1, b2, b3⟩ := q.bd
  unfold m__law_text
  rw [atI_0, obx_some, obu0_l, form_eq q.hp, shape_eq q.hs]
  dsimp only
  rw [obx_some, obu0_l, c1, grd_true (by rw [List.length_map]; omega)]
  rw [lc_inr (α := Unit) rT (fun x hx nx => by
    have := q.hr x hx
    have h1 : ("r" : Str).length = 1 := by decide +kernel
    have h2 := tS_len (x := x) (by omega)
    rw [grd_true (by omega), grd_true (by show ("r" : Str).length + (tS x).length ≤ _; omega), grd_true (show tOk (("r" : Str) ++ (toString x : Str)) from rT_ok)]; rfl)]
  rw [grd_true (by rw [List.length_map, List.length_singleton]; omega), jn_eq]
  have fin : ∀ l : List Str, l = tail.map tS → (grd ((([n] : (List Str)) ++ xs.map rT).length + l.length ≤ 100000) <|
    grd ((((([n] : (List Str)) ++ xs.map rT) ++ l).map (·.length)).sum + ((([n] : (List Str)) ++ xs.map rT) ++ l).length ≤ 1000000) <|
    k (Txt.join (" " : Str) ((([n] : (List Str)) ++ xs.map rT) ++ l))) = k (txt n xs tail) := fun l e => by
    subst e
    have hs : ((([n] ++ xs.map rT) ++ tail.map tS).map (·.length)).sum + (([n] ++ xs.map rT) ++ tail.map tS).length ≤ 1000000 := Nat.le_trans (parts_sum q) (by omega)
    rw [grd_true (by rw [List.length_append, List.length_map, List.length_map, List.length_singleton]; omega), grd_true hs]
    rfl
  rcases q.ht with ⟨z, e⟩ | ⟨z, x, e, h1, h2⟩
  · rw [show lo sh = none from if_pos z, if_pos (by rfl)]
    exact fin [] (by rw [e]; rfl)
  · rw [show lo sh = some sh.2.2.1 from if_neg z, if_neg (by simp)]
    have ha : atI ((.inl n : Str ⊕ Int) :: (xs ++ tail).map .inr) (-(1 : Int)) = some (.inr x) := by
      rw [e, List.map_append, ← List.cons_append]
      exact atI_m1
    rw [ha, obx_some, obu1_r, grd_true (by have := b3 x (by rw [e]; simp); omega), grd_true (show tOk (toString x : Str) from tS_ok)]
    exact fin [tS x] (by rw [e]; rfl)
theorem sCut_len {t : Str} {lo hi : Option Int} : (cutS t lo hi).length ≤ t.length := cutS_length t lo hi
theorem sAdd_len (x y : Str) : (x ++ y).length = x.length + y.length := by rw [len_cs, cs_add, List.length_append, len_cs, len_cs y]
theorem from_len {t : Str} {d : Int} (h : 0 ≤ d) : (cutS t (some d) none).length = t.length - d.toNat := by
  have h1 : cutA (cs t) (some d) none = (cs t).drop d.toNat := cutA_from h
  have e : cs (cutS t (some d) none) = cutA (cs t) (some d) none := by
    show (List.toArray _).toList = _
    unfold cutA
    rw [len_cs]
  rw [len_cs, e, h1, List.length_drop, len_cs t]
theorem to_len {t : Str} {d : Int} (h : 0 ≤ d) : (cutS t none (some d)).length ≤ d.toNat := by
  rw [len_cs, cs_to t h, List.length_take]; omega
theorem bent_ok {t : Str} (h0 : 0 < t.length) (h1 : t.length ≤ 400) (ht : tOk t) {k : Str → Prop} (h : ∀ t', t'.length ≤ t.length + 1 → tOk t' → k t') : m__law_bent t k := by
  unfold m__law_bent
  rw [grd_true (by omega)]
  refine drw_ok (by omega) fun d1 a1 a2 => drw_ok (by omega) fun d2 _ _ => ?_
  have l1 := to_len (t := t) a1
  have l2 := from_len (t := t) (d := d1) a1
  have l3 := from_len (t := t) (d := d1 + 1) (by omega)
  by_cases c0 : d2 = 0
  · rw [if_pos c0, grd_true (by omega), grd_true (by omega), grd_true (by omega)]
    exact h _ (by rw [sAdd_len]; omega) (tOk_add (tOk_cut ht) (tOk_cut ht))
  · rw [if_neg c0]
    by_cases c1 : d2 = 1
    · rw [if_pos c1, grd_true (by omega)]
      refine pck_ok (by decide) fun p hp => ?_
      have hp2 : p.length ≤ 1 ∧ tOk p := by
        have : (([("0" : Str), ("1" : Str), ("-" : Str), (" " : Str), ("r" : Str), ("i" : Str), ("x" : Str), ("7" : Str)] : (List Str)).all fun p => decide (p.length ≤ 1) && PyData.strOk p) = true := by decide +kernel
        have := List.all_eq_true.mp this p hp
        simp only [Bool.and_eq_true, decide_eq_true_eq] at this
        exact this
      rw [grd_true (by omega), grd_true (by omega), grd_true (by rw [sAdd_len]; omega)]
      exact h _ (by rw [sAdd_len, sAdd_len]; omega) (tOk_add (tOk_add (tOk_cut ht) hp2.2) (tOk_cut ht))
    · rw [if_neg c1, grd_true (by omega)]
      refine pck_ok (by decide) fun p hp => ?_
      have hp2 : p.length ≤ 1 ∧ tOk p := by
        have : (([("0" : Str), ("8" : Str), ("-" : Str), (" " : Str), ("r" : Str), ("z" : Str), ("1" : Str)] : (List Str)).all fun p => decide (p.length ≤ 1) && PyData.strOk p) = true := by decide +kernel
        have := List.all_eq_true.mp this p hp
        simp only [Bool.and_eq_true, decide_eq_true_eq] at this
        exact this
      rw [grd_true (by omega), grd_true (by omega), grd_true (by rw [sAdd_len]; omega)]
      exact h _ (by rw [sAdd_len, sAdd_len]; omega) (tOk_add (tOk_add (tOk_cut ht) hp2.2) (tOk_cut ht))
theorem inst_eq {t : Str} (hl : t.length ≤ 500) (ht : tOk t) {k : List (Option (Str ⊕ Int)) → Prop} {xr : Prop} : m_instruction_of t k xr = match res t with
    | none => xr
    | some p => k (some (.inl p.1) :: p.2.map fun n => some (.inr n)) := by
  unfold m_instruction_of
  rw [prog_eq hl ht]
  cases res t with
  | none => rfl
  | some p =>
    dsimp only [Option.map_some]
    rw [if_neg (by simp), obg_some]
theorem heard_eq {t : Str} (hl : t.length ≤ 500) (ht : tOk t) {k : Option (List (Option (Str ⊕ Int))) → Prop} : m__law_heard t k = k ((res t).map fun p => (some (.inl p.1) :: p.2.map fun n => some (.inr n))) := by
  unfold m__law_heard
  rw [jn_eq, inst_eq hl ht]
  cases res t <;> rfl
theorem res_e : res ("" : Str) = none := by
  unfold res
  have : words ("" : Str) = [("" : Str)] := by decide +kernel
  rw [this]
  have : dlk D_FORMS ("" : Str) = none := by decide +kernel
  dsimp only
  rw [this]
theorem law_ok (ns : List Int) (hl : ns.length ≤ 63) : m_law ns (fun b => b = true) := by
  unfold m_law
  rw [grd_true (by omega)]
  refine forL_inv (fun _ _ => True) trivial (fun i x u nx _ _ hnx => ?_) fun u _ => ?_
  · refine drawn_ok fun n f ps hp v => ?_
    obtain ⟨sh, xs, tail, hs, e, h1, h2, h3⟩ := vld_parts v
    subst e
    have q : Prt n f sh xs tail := ⟨hp, hs, h1, h2, h3⟩
    have tl := txt_len q
    have tk := txt_ok q
    rw [ltext_eq q, jn_eq, want_eq q, if_pos rfl, inst_eq (by omega) tk, res_txt q]
    dsimp only
    have sw := prt_shw q
    rw [same_tup, grd_true sw, grd_true sw]
    rw [show (!(eqb (PyData.shown (.tuple ((.inl n :: (xs ++ tail).map .inr : List (Str ⊕ Int)).map fun z => uD z))) (PyData.shown (.tuple ((.inl n :: (xs ++ tail).map .inr : List (Str ⊕ Int)).map fun z => uD z))))) = false by simp]
    rw [if_neg (by decide), grd_true (by omega)]
    refine forL_inv (fun i (m : Str) => m.length ≤ 105 + 3 * i ∧ tOk m ∧ 0 < m.length) ⟨by omega, tk, ?_⟩ (fun i x m nx2 hx hI hnx2 => ?_) fun _ _ => hnx _ trivial
    · have := txt_pos q
      by_cases z : (txt n xs tail).length = 0
      · exfalso
        refine this (ext_cs ?_)
        rw [len_cs] at z
        rw [cs_e]
        exact List.length_eq_zero_iff.mp z
      · omega
    · obtain ⟨i1, i2, i3⟩ := hI
      have hi : i < 4 := by
        have := (List.getElem?_eq_some_iff.mp hx).1
        rw [rgI_len] at this
        exact this
      refine pck_ok (by decide) fun p hp => ?_
      have hp2 : p.length ≤ 2 ∧ tOk p := by
        have : (([("" : Str), ("" : Str), (" 0" : Str)] : (List Str)).all fun p => decide (p.length ≤ 2) && PyData.strOk p) = true := by decide +kernel
        have := List.all_eq_true.mp this p hp
        simp only [Bool.and_eq_true, decide_eq_true_eq] at this
        exact this
      rw [grd_true (by omega)]
      refine bent_ok (by rw [sAdd_len]; omega) (by rw [sAdd_len]; omega) (tOk_add i2 hp2.2) fun t' l' k' => ?_
      rw [sAdd_len] at l'
      rw [jn_eq]
      by_cases he : t' = ("" : Str)
      · rw [if_pos he]
        dsimp only
        rw [if_pos rfl, if_pos he, heard_eq (by decide +kernel) (by decide +kernel), res_e]
        rfl
      · have sw2 := res_shw t'
        rw [if_neg he, heard_eq (by omega) k', same_opt, grd_true sw2, law_read_eq (by omega) k', grd_true sw2]
        rw [show ∀ x : Str, (!(eqb x x)) = false from fun x => by simp]
        dsimp only
        rw [if_neg (by decide)]
        refine hnx2 _ ⟨by omega, k', ?_⟩
        by_cases z : t'.length = 0
        · exfalso
          refine he (ext_cs ?_)
          rw [len_cs] at z
          rw [cs_e]
          exact List.length_eq_zero_iff.mp z
        · omega
  · have q1 : Prt ("nop" : Str) ("bare" : Str) (0, 0, 0, 0) [] [] := ⟨by decide +kernel, by decide +kernel, rfl, by simp, .inl ⟨rfl, rfl⟩⟩
    have q2 : Prt ("st" : Str) ("near" : Str) (2, 5, -16, 15) [3, 1] [-2] := ⟨by decide +kernel, by decide +kernel, rfl, by decide, .inr ⟨by decide, -2, rfl, by decide, by decide⟩⟩
    have e1 := want_eq q1 (k := fun r24 => (if r24 = ("nop" : Str) then
      m_instruction_of ("st r3 r1 -2" : Str) (fun r25 =>
      (eqb r25 ([(some (.inl ("st" : Str))), (some (.inr (3 : Int))), (some (.inr (1 : Int))), (some (.inr (-(2 : Int))))] : (List (Option (Str ⊕ Int))))) = true) False
      else
      false = true))
    refine Eq.mpr e1 ?_
    have t1 : txt ("nop" : Str) [] [] = ("nop" : Str) := by decide +kernel
    have t2 : txt ("st" : Str) [3, 1] [-2] = ("st r3 r1 -2" : Str) := by decide +kernel
    have r2 := res_txt q2
    rw [t2] at r2
    rw [t1, if_pos rfl, inst_eq (by decide +kernel) (by decide +kernel), r2]
    decide +kernel

open PySem L2 Toy in
local macro_rules | `(tactic| walk_at "dsp") => `(tactic| first | fail "")
open PySem L2 Toy in
local macro_rules | `(tactic| walk_at "oxc") => `(tactic| first | fail ""  | exact Txt.x_InvalidListing (by (with_reducible assumption)))
open PySem L2 Toy in
local macro_rules | `(tactic| walk_at "oxn") => `(tactic| first | fail ""  | exact Txt.xn_InvalidListing_value (by (with_reducible assumption)))
open PySem L2 Toy in
local macro_rules | `(tactic| walk_at "xes") => `(tactic| first | fail ""  | exact Txt.xe_InvalidListing (by (with_reducible assumption)))
open PySem L2 Toy in
local macro_rules | `(tactic| walk_at "tqs") => `(tactic| first | fail "" )
open PySem L2 Toy in
local macro_rules | `(tactic| walk_at "vts") => `(tactic| first | fail ""  | ((with_reducible refine' c_catKI (E := (kU (kSt (K := $(Lean.mkIdent `K))) (kI (K := $(Lean.mkIdent `K))))) $(Lean.mkIdent `hm) ?h ?g (fun $(Lean.mkIdent `hm) _ => ?_)); (case h => walk_at "el"); (case g => walk_at "el")))
open PySem L2 Toy in
local macro_rules | `(tactic| walk_at "drc") => `(tactic| first | fail "")
open PySem L2 Toy in
local macro_rules | `(tactic| walk_at "fr1") => `(tactic| first | walk_at "fr0" | ((with_reducible refine' take_lsD ?t ?h); (case t => walk_at "fr0"); (case h => walk_at "as")) | ((with_reducible refine' take_dk0 ?t); (case t => walk_at "fr0")) | ((with_reducible refine' take_lsS ?t); (case t => walk_at "fr0")))
open PySem L2 Toy in
local macro_rules | `(tactic| walk_at "fr") => `(tactic| first | walk_at "fr0" | ((with_reducible refine' take_lsD ?t ?h); (case t => walk_at "fr0"); (case h => walk_at "as")) | ((with_reducible refine' take_dk0 ?t); (case t => walk_at "fr0")) | ((with_reducible refine' take_lsS ?t); (case t => walk_at "fr0")))
open PySem L2 Toy in
local macro_rules | `(tactic| walk_at "fold1") => `(tactic| first | fail "")
open PySem L2 Toy in
local macro_rules | `(tactic| walk_at "open1") => `(tactic| first | fail "")
open PySem L2 Toy in
local macro_rules | `(tactic| walk_at "hi") => `(tactic| first | ((refine' hasI_pt ?h ?g); (case h => walk_at "fr0"); (case g => rfl)))
open PySem L2 Toy in
local macro_rules | `(tactic| walk_at "tyx") => `(tactic| first | exact ty_I _ | exact ty_B _ | exact ty_S _ | ((with_reducible refine' ty_ptL ?t); (case t => walk_at "fr0")) | ((with_reducible refine' ty_ls ?t); (case t => walk_at "fr")) | ((with_reducible refine' ty_tu ?t); (case t => walk_at "fr0")) | ((with_reducible refine' ty_vTu ?t); (case t => walk_at "fr0")) | ((with_reducible refine' ty_vT ?t); (case t => walk_at "fr0")) | (with_reducible assumption))
open PySem L2 Toy in
local macro_rules | `(tactic| walk_at "kit") => `(tactic| first | exact kit_ty (by decide +kernel))
open PySem L2 Toy in
local macro_rules | `(tactic| walk_at "ins") => `(tactic| first | fail "" )
open PySem L2 Toy in
local macro_rules | `(tactic| walk_at "nfst") => `(tactic| first | fail "" )
open PySem L2 Toy in
local macro_rules | `(tactic| walk_at "kdt") => `(tactic| first | fail ""  | exact Txt.kd_FORMS (by (with_reducible assumption)))
open PySem L2 Toy in
local macro_rules | `(tactic| walk_at "ktt") => `(tactic| first | fail ""  | exact Txt.kt_FORMS (by (with_reducible assumption)))
open PySem L2 Toy in
local macro_rules | `(tactic| walk_at "kqt") => `(tactic| first | fail ""  | exact Txt.kq_SHAPES (by (with_reducible assumption)))
open PySem L2 Toy in
local macro_rules | `(tactic| walk_at "ixq") => `(tactic| first | fail ""  | ((with_reducible refine' c_ixQ_SHAPES $(Lean.mkIdent `hm) ?d (fun w $(Lean.mkIdent `hm) _ => ?_)); (case d => walk_at "kqt")))
def sp_is_integer__V_o (K : PySem.W.Frag) (a : Ad) : Sp := fun vs H Q _ => ∃ (value : (Option (Str ⊕ Int))) (v_value : V) (F : List HA) (k : Bool → Prop), vs = [v_value] ∧ Holds (vl (kO (kU (kSt (K := K)) (kI (K := K)))) v_value value :: F) H ∧ m_is_integer__V_o value k ∧ ∀ r, k r → Ent (F) (Q (.bl r))
theorem e_is_integer__V_o {K : PySem.W.Frag} {a : Ad} {L : List HA} {Q : VK} {E : XK} {value : (Option (Str ⊕ Int))} {v_value : V} {k : Bool → Prop} (hm : m_is_integer__V_o value k) (h_value : Is (kO (kU (kSt (K := K)) (kI (K := K)))) L v_value value)   (q : ∀ r, k r → Ent (L) (Q (.bl r))) : Ent L fun H => sp_is_integer__V_o K a [v_value] H Q E := fun H z => by
  have z0 : Holds (L) H := z
  have z1 := Holds.vl z0 (h_value H z)
  exact ⟨value, v_value, L, k, rfl, Sub.to (by walk_at "sub") z1, hm, q⟩
def sp_is_count__V_o (K : PySem.W.Frag) (a : Ad) : Sp := fun vs H Q _ => ∃ (value : (Option (Str ⊕ Int))) (v_value : V) (F : List HA) (k : Bool → Prop), vs = [v_value] ∧ Holds (vl (kO (kU (kSt (K := K)) (kI (K := K)))) v_value value :: F) H ∧ m_is_count__V_o value k ∧ ∀ r, k r → Ent (F) (Q (.bl r))
theorem e_is_count__V_o {K : PySem.W.Frag} {a : Ad} {L : List HA} {Q : VK} {E : XK} {value : (Option (Str ⊕ Int))} {v_value : V} {k : Bool → Prop} (hm : m_is_count__V_o value k) (h_value : Is (kO (kU (kSt (K := K)) (kI (K := K)))) L v_value value)   (q : ∀ r, k r → Ent (L) (Q (.bl r))) : Ent L fun H => sp_is_count__V_o K a [v_value] H Q E := fun H z => by
  have z0 : Holds (L) H := z
  have z1 := Holds.vl z0 (h_value H z)
  exact ⟨value, v_value, L, k, rfl, Sub.to (by walk_at "sub") z1, hm, q⟩
def sp_is_instruction_value (K : PySem.W.Frag) (a : Ad) : Sp := fun vs H Q _ => ∃ (value : (List (Str ⊕ Int))) (v_value : V) (F : List HA) (k : Bool → Prop), vs = [v_value] ∧ Holds (vl (kT (kU (kSt (K := K)) (kI (K := K)))) v_value value :: F) H ∧ m_is_instruction_value value k ∧ ∀ r, k r → Ent (F) (Q (.bl r))
theorem e_is_instruction_value {K : PySem.W.Frag} {a : Ad} {L : List HA} {Q : VK} {E : XK} {value : (List (Str ⊕ Int))} {v_value : V} {k : Bool → Prop} (hm : m_is_instruction_value value k) (h_value : Is (kT (kU (kSt (K := K)) (kI (K := K)))) L v_value value)   (q : ∀ r, k r → Ent (L) (Q (.bl r))) : Ent L fun H => sp_is_instruction_value K a [v_value] H Q E := fun H z => by
  have z0 : Holds (L) H := z
  have z1 := Holds.vl z0 (h_value H z)
  exact ⟨value, v_value, L, k, rfl, Sub.to (by walk_at "sub") z1, hm, q⟩
def sp_is_instruction_value__V_o (K : PySem.W.Frag) (a : Ad) : Sp := fun vs H Q _ => ∃ (value : (List (Option (Str ⊕ Int)))) (v_value : V) (F : List HA) (k : Bool → Prop), vs = [v_value] ∧ Holds (vl (kT (kO (kU (kSt (K := K)) (kI (K := K))))) v_value value :: F) H ∧ m_is_instruction_value__V_o value k ∧ ∀ r, k r → Ent (F) (Q (.bl r))
theorem e_is_instruction_value__V_o {K : PySem.W.Frag} {a : Ad} {L : List HA} {Q : VK} {E : XK} {value : (List (Option (Str ⊕ Int)))} {v_value : V} {k : Bool → Prop} (hm : m_is_instruction_value__V_o value k) (h_value : Is (kT (kO (kU (kSt (K := K)) (kI (K := K))))) L v_value value)   (q : ∀ r, k r → Ent (L) (Q (.bl r))) : Ent L fun H => sp_is_instruction_value__V_o K a [v_value] H Q E := fun H z => by
  have z0 : Holds (L) H := z
  have z1 := Holds.vl z0 (h_value H z)
  exact ⟨value, v_value, L, k, rfl, Sub.to (by walk_at "sub") z1, hm, q⟩
def sp_want_instruction (K : PySem.W.Frag) (a : Ad) : Sp := fun vs H Q _ => ∃ (value : (List (Str ⊕ Int))) (v_value : V) (F : List HA) (k : (List (Str ⊕ Int)) → Prop), vs = [v_value] ∧ Holds (vl (kT (kU (kSt (K := K)) (kI (K := K)))) v_value value :: F) H ∧ m_want_instruction value k ∧ ∀ r, k r → ∀ v, Ent (vl (kT (kU (kSt (K := K)) (kI (K := K)))) v r :: F) (Q v)
theorem e_want_instruction {K : PySem.W.Frag} {a : Ad} {L : List HA} {Q : VK} {E : XK} {value : (List (Str ⊕ Int))} {v_value : V} {k : (List (Str ⊕ Int)) → Prop} (hm : m_want_instruction value k) (h_value : Is (kT (kU (kSt (K := K)) (kI (K := K)))) L v_value value)   (q : ∀ r, k r → ∀ v, Ent (vl (kT (kU (kSt (K := K)) (kI (K := K)))) v r :: L) (Q v)) : Ent L fun H => sp_want_instruction K a [v_value] H Q E := fun H z => by
  have z0 : Holds (L) H := z
  have z1 := Holds.vl z0 (h_value H z)
  exact ⟨value, v_value, L, k, rfl, Sub.to (by walk_at "sub") z1, hm, q⟩
def sp_listing_text (K : PySem.W.Frag) (a : Ad) : Sp := fun vs H Q _ => ∃ (instruction : (List (Str ⊕ Int))) (v_instruction : V) (F : List HA) (k : Str → Prop), vs = [v_instruction] ∧ Holds (vl (kT (kU (kSt (K := K)) (kI (K := K)))) v_instruction instruction :: F) H ∧ m_listing_text instruction k ∧ ∀ r, k r → Ent (F) (Q (.str r))
theorem e_listing_text {K : PySem.W.Frag} {a : Ad} {L : List HA} {Q : VK} {E : XK} {instruction : (List (Str ⊕ Int))} {v_instruction : V} {k : Str → Prop} (hm : m_listing_text instruction k) (h_instruction : Is (kT (kU (kSt (K := K)) (kI (K := K)))) L v_instruction instruction)   (q : ∀ r, k r → Ent (L) (Q (.str r))) : Ent L fun H => sp_listing_text K a [v_instruction] H Q E := fun H z => by
  have z0 : Holds (L) H := z
  have z1 := Holds.vl z0 (h_instruction H z)
  exact ⟨instruction, v_instruction, L, k, rfl, Sub.to (by walk_at "sub") z1, hm, q⟩
def sp_register_in (K : PySem.W.Frag) (a : Ad) : Sp := fun vs H Q _ => ∃ (word : Str) (F : List HA) (k : (Option (Str ⊕ Int)) → Prop), vs = [.str word] ∧ Holds (F) H ∧ m_register_in word k ∧ ∀ r, k r → ∀ v, Ent (vl (kO (kU (kSt (K := K)) (kI (K := K)))) v r :: F) (Q v)
theorem e_register_in {K : PySem.W.Frag} {a : Ad} {L : List HA} {Q : VK} {E : XK} {word : Str} {k : (Option (Str ⊕ Int)) → Prop} (hm : m_register_in word k)    (q : ∀ r, k r → ∀ v, Ent (vl (kO (kU (kSt (K := K)) (kI (K := K)))) v r :: L) (Q v)) : Ent L fun H => sp_register_in K a [.str word] H Q E := fun H z => by
  have z0 : Holds (L) H := z
  exact ⟨word, L, k, rfl, Sub.to (by walk_at "sub") z0, hm, q⟩
def sp_integer_in (K : PySem.W.Frag) (a : Ad) : Sp := fun vs H Q _ => ∃ (word : Str) (F : List HA) (k : (Option (Str ⊕ Int)) → Prop), vs = [.str word] ∧ Holds (F) H ∧ m_integer_in word k ∧ ∀ r, k r → ∀ v, Ent (vl (kO (kU (kSt (K := K)) (kI (K := K)))) v r :: F) (Q v)
theorem e_integer_in {K : PySem.W.Frag} {a : Ad} {L : List HA} {Q : VK} {E : XK} {word : Str} {k : (Option (Str ⊕ Int)) → Prop} (hm : m_integer_in word k)    (q : ∀ r, k r → ∀ v, Ent (vl (kO (kU (kSt (K := K)) (kI (K := K)))) v r :: L) (Q v)) : Ent L fun H => sp_integer_in K a [.str word] H Q E := fun H z => by
  have z0 : Holds (L) H := z
  exact ⟨word, L, k, rfl, Sub.to (by walk_at "sub") z0, hm, q⟩
def sp_listing_instruction (K : PySem.W.Frag) (a : Ad) : Sp := fun vs H Q _ => ∃ (text : Str) (F : List HA) (k : (Option (List (Option (Str ⊕ Int)))) → Prop), vs = [.str text] ∧ Holds (F) H ∧ m_listing_instruction text k ∧ ∀ r, k r → ∀ v, Ent (vl (kO (kT (kO (kU (kSt (K := K)) (kI (K := K)))))) v r :: F) (Q v)
theorem e_listing_instruction {K : PySem.W.Frag} {a : Ad} {L : List HA} {Q : VK} {E : XK} {text : Str} {k : (Option (List (Option (Str ⊕ Int)))) → Prop} (hm : m_listing_instruction text k)    (q : ∀ r, k r → ∀ v, Ent (vl (kO (kT (kO (kU (kSt (K := K)) (kI (K := K)))))) v r :: L) (Q v)) : Ent L fun H => sp_listing_instruction K a [.str text] H Q E := fun H z => by
  have z0 : Holds (L) H := z
  exact ⟨text, L, k, rfl, Sub.to (by walk_at "sub") z0, hm, q⟩
def sp_text_of (K : PySem.W.Frag) (a : Ad) : Sp := fun vs H Q _ => ∃ (instruction : (List (Str ⊕ Int))) (v_instruction : V) (F : List HA) (k : Str → Prop), vs = [v_instruction] ∧ Holds (vl (kT (kU (kSt (K := K)) (kI (K := K)))) v_instruction instruction :: F) H ∧ m_text_of instruction k ∧ ∀ r, k r → Ent (F) (Q (.str r))
theorem e_text_of {K : PySem.W.Frag} {a : Ad} {L : List HA} {Q : VK} {E : XK} {instruction : (List (Str ⊕ Int))} {v_instruction : V} {k : Str → Prop} (hm : m_text_of instruction k) (h_instruction : Is (kT (kU (kSt (K := K)) (kI (K := K)))) L v_instruction instruction)   (q : ∀ r, k r → Ent (L) (Q (.str r))) : Ent L fun H => sp_text_of K a [v_instruction] H Q E := fun H z => by
  have z0 : Holds (L) H := z
  have z1 := Holds.vl z0 (h_instruction H z)
  exact ⟨instruction, v_instruction, L, k, rfl, Sub.to (by walk_at "sub") z1, hm, q⟩
def sp_instruction_of (K : PySem.W.Frag) (a : Ad) : Sp := fun vs H Q E => ∃ (text : Str) (F : List HA) (k : (List (Option (Str ⊕ Int))) → Prop) (xr : Prop), vs = [.str text] ∧ Holds (F) H ∧ m_instruction_of text k xr ∧ (∀ r, k r → ∀ v, Ent (vl (kT (kO (kU (kSt (K := K)) (kI (K := K))))) v r :: F) (Q v)) ∧ (xr → ∀ d : Option Addr, Ent (F) (E (.ref a.c_InvalidListing) d))
theorem e_instruction_of {K : PySem.W.Frag} {a : Ad} {L : List HA} {Q : VK} {E : XK} {text : Str} {k : (List (Option (Str ⊕ Int))) → Prop} {xr : Prop} (hm : m_instruction_of text k xr)    (q : ∀ r, k r → ∀ v, Ent (vl (kT (kO (kU (kSt (K := K)) (kI (K := K))))) v r :: L) (Q v)) (qx : xr → ∀ d : Option Addr, Ent (L) (E (.ref a.c_InvalidListing) d)) : Ent L fun H => sp_instruction_of K a [.str text] H Q E := fun H z => by
  have z0 : Holds (L) H := z
  exact ⟨text, L, k, xr, rfl, Sub.to (by walk_at "sub") z0, hm, q, qx⟩
def sp__law_names (K : PySem.W.Frag) (a : Ad) : Sp := fun vs H Q _ => ∃  (F : List HA) (k : (List Str) → Prop), vs = [] ∧ Holds (F) H ∧ m__law_names  k ∧ ∀ r, k r → ∀ p, Ent (ls (kSt (K := K)) p r :: F) (Q (.ref p))
theorem e__law_names {K : PySem.W.Frag} {a : Ad} {L : List HA} {Q : VK} {E : XK}  {k : (List Str) → Prop} (hm : m__law_names  k)    (q : ∀ r, k r → ∀ p, Ent (ls (kSt (K := K)) p r :: L) (Q (.ref p))) : Ent L fun H => sp__law_names K a [] H Q E := fun H z => by
  have z0 : Holds (L) H := z
  exact ⟨L, k, rfl, Sub.to (by walk_at "sub") z0, hm, q⟩
def sp__law_form (K : PySem.W.Frag) (a : Ad) : Sp := fun vs H Q _ => ∃ (name : Str) (F : List HA) (k : Str → Prop), vs = [.str name] ∧ Holds (F) H ∧ m__law_form name k ∧ ∀ r, k r → Ent (F) (Q (.str r))
theorem e__law_form {K : PySem.W.Frag} {a : Ad} {L : List HA} {Q : VK} {E : XK} {name : Str} {k : Str → Prop} (hm : m__law_form name k)    (q : ∀ r, k r → Ent (L) (Q (.str r))) : Ent L fun H => sp__law_form K a [.str name] H Q E := fun H z => by
  have z0 : Holds (L) H := z
  exact ⟨name, L, k, rfl, Sub.to (by walk_at "sub") z0, hm, q⟩
def sp__law_shape (K : PySem.W.Frag) (a : Ad) : Sp := fun vs H Q _ => ∃ (form_here : Str) (F : List HA) (k : (Int × (Option Int) × (Option Int)) → Prop), vs = [.str form_here] ∧ Holds (F) H ∧ m__law_shape form_here k ∧ ∀ r, k r → ∀ v, Ent (vl (kTup (kC (kI (K := K)) (kC (kO (kI (K := K))) (kC1 (kO (kI (K := K))))))) v r :: F) (Q v)
theorem e__law_shape {K : PySem.W.Frag} {a : Ad} {L : List HA} {Q : VK} {E : XK} {form_here : Str} {k : (Int × (Option Int) × (Option Int)) → Prop} (hm : m__law_shape form_here k)    (q : ∀ r, k r → ∀ v, Ent (vl (kTup (kC (kI (K := K)) (kC (kO (kI (K := K))) (kC1 (kO (kI (K := K))))))) v r :: L) (Q v)) : Ent L fun H => sp__law_shape K a [.str form_here] H Q E := fun H z => by
  have z0 : Holds (L) H := z
  exact ⟨form_here, L, k, rfl, Sub.to (by walk_at "sub") z0, hm, q⟩
def sp__law_drawn (K : PySem.W.Frag) (a : Ad) : Sp := fun vs H Q _ => ∃ (a_pot_here : Addr) (F : List HA) (k : (List (Str ⊕ Int)) → Prop), vs = [.ref a_pot_here] ∧ Holds (PotA a_pot_here :: F) H ∧ m__law_drawn  k ∧ ∀ r, k r → ∀ v, Ent (vl (kT (kU (kSt (K := K)) (kI (K := K)))) v r :: PotA a_pot_here :: F) (Q v)
theorem e__law_drawn {K : PySem.W.Frag} {a : Ad} {L R1 : List HA} {Q : VK} {E : XK} {a_pot_here : Addr} {k : (List (Str ⊕ Int)) → Prop} (hm : m__law_drawn  k)  (t_pot_here : Take (PotA a_pot_here) L R1)  (q : ∀ r, k r → ∀ v, Ent (vl (kT (kU (kSt (K := K)) (kI (K := K)))) v r :: PotA a_pot_here :: R1) (Q v)) : Ent L fun H => sp__law_drawn K a [.ref a_pot_here] H Q E := fun H z => by
  have z0 : Holds (PotA a_pot_here :: R1) H := Sub.to t_pot_here z
  exact ⟨a_pot_here, R1, k, rfl, Sub.to (by walk_at "sub") z0, hm, q⟩
def sp__law_text (K : PySem.W.Frag) (a : Ad) : Sp := fun vs H Q _ => ∃ (told : (List (Str ⊕ Int))) (v_told : V) (F : List HA) (k : Str → Prop), vs = [v_told] ∧ Holds (vl (kT (kU (kSt (K := K)) (kI (K := K)))) v_told told :: F) H ∧ m__law_text told k ∧ ∀ r, k r → Ent (F) (Q (.str r))
theorem e__law_text {K : PySem.W.Frag} {a : Ad} {L : List HA} {Q : VK} {E : XK} {told : (List (Str ⊕ Int))} {v_told : V} {k : Str → Prop} (hm : m__law_text told k) (h_told : Is (kT (kU (kSt (K := K)) (kI (K := K)))) L v_told told)   (q : ∀ r, k r → Ent (L) (Q (.str r))) : Ent L fun H => sp__law_text K a [v_told] H Q E := fun H z => by
  have z0 : Holds (L) H := z
  have z1 := Holds.vl z0 (h_told H z)
  exact ⟨told, v_told, L, k, rfl, Sub.to (by walk_at "sub") z1, hm, q⟩
def sp__law_number (K : PySem.W.Frag) (a : Ad) : Sp := fun vs H Q _ => ∃ (word : Str) (F : List HA) (k : (Option Int) → Prop), vs = [.str word] ∧ Holds (F) H ∧ m__law_number word k ∧ ∀ r, k r → ∀ v, Ent (vl (kO (kI (K := K))) v r :: F) (Q v)
theorem e__law_number {K : PySem.W.Frag} {a : Ad} {L : List HA} {Q : VK} {E : XK} {word : Str} {k : (Option Int) → Prop} (hm : m__law_number word k)    (q : ∀ r, k r → ∀ v, Ent (vl (kO (kI (K := K))) v r :: L) (Q v)) : Ent L fun H => sp__law_number K a [.str word] H Q E := fun H z => by
  have z0 : Holds (L) H := z
  exact ⟨word, L, k, rfl, Sub.to (by walk_at "sub") z0, hm, q⟩
def sp__law_read (K : PySem.W.Frag) (a : Ad) : Sp := fun vs H Q _ => ∃ (text_here : Str) (F : List HA) (k : (Option (List (Str ⊕ Int))) → Prop), vs = [.str text_here] ∧ Holds (F) H ∧ m__law_read text_here k ∧ ∀ r, k r → ∀ v, Ent (vl (kO (kT (kU (kSt (K := K)) (kI (K := K))))) v r :: F) (Q v)
theorem e__law_read {K : PySem.W.Frag} {a : Ad} {L : List HA} {Q : VK} {E : XK} {text_here : Str} {k : (Option (List (Str ⊕ Int))) → Prop} (hm : m__law_read text_here k)    (q : ∀ r, k r → ∀ v, Ent (vl (kO (kT (kU (kSt (K := K)) (kI (K := K))))) v r :: L) (Q v)) : Ent L fun H => sp__law_read K a [.str text_here] H Q E := fun H z => by
  have z0 : Holds (L) H := z
  exact ⟨text_here, L, k, rfl, Sub.to (by walk_at "sub") z0, hm, q⟩
def sp__law_heard (K : PySem.W.Frag) (a : Ad) : Sp := fun vs H Q _ => ∃ (text_here : Str) (F : List HA) (k : (Option (List (Option (Str ⊕ Int)))) → Prop), vs = [.str text_here] ∧ Holds (F) H ∧ m__law_heard text_here k ∧ ∀ r, k r → ∀ v, Ent (vl (kO (kT (kO (kU (kSt (K := K)) (kI (K := K)))))) v r :: F) (Q v)
theorem e__law_heard {K : PySem.W.Frag} {a : Ad} {L : List HA} {Q : VK} {E : XK} {text_here : Str} {k : (Option (List (Option (Str ⊕ Int)))) → Prop} (hm : m__law_heard text_here k)    (q : ∀ r, k r → ∀ v, Ent (vl (kO (kT (kO (kU (kSt (K := K)) (kI (K := K)))))) v r :: L) (Q v)) : Ent L fun H => sp__law_heard K a [.str text_here] H Q E := fun H z => by
  have z0 : Holds (L) H := z
  exact ⟨text_here, L, k, rfl, Sub.to (by walk_at "sub") z0, hm, q⟩
def sp__law_bent (K : PySem.W.Frag) (a : Ad) : Sp := fun vs H Q _ => ∃ (a_pot_here : Addr) (text_here : Str) (F : List HA) (k : Str → Prop), vs = [.ref a_pot_here, .str text_here] ∧ Holds (PotA a_pot_here :: F) H ∧ m__law_bent text_here k ∧ ∀ r, k r → Ent (PotA a_pot_here :: F) (Q (.str r))
theorem e__law_bent {K : PySem.W.Frag} {a : Ad} {L R1 : List HA} {Q : VK} {E : XK} {a_pot_here : Addr} {text_here : Str} {k : Str → Prop} (hm : m__law_bent text_here k)  (t_pot_here : Take (PotA a_pot_here) L R1)  (q : ∀ r, k r → Ent (PotA a_pot_here :: R1) (Q (.str r))) : Ent L fun H => sp__law_bent K a [.ref a_pot_here, .str text_here] H Q E := fun H z => by
  have z0 : Holds (PotA a_pot_here :: R1) H := Sub.to t_pot_here z
  exact ⟨a_pot_here, text_here, R1, k, rfl, Sub.to (by walk_at "sub") z0, hm, q⟩
open PySem L2 Toy in
local macro_rules | `(tactic| walk_at "lc") => `(tactic| first | ((with_reducible refine' c_lcSt (kB (K := $(Lean.mkIdent `K))) $(Lean.mkIdent `hm) (fun x nxt $(Lean.mkIdent `hm) => ?step) (fun ys $(Lean.mkIdent `hm) D => ?_)); (case step => intro D ys r s $(Lean.mkIdent `q1) $(Lean.mkIdent `q2); repeat (walk_at "go"))) | ((with_reducible refine' c_lcSt (kO (kU (kSt (K := $(Lean.mkIdent `K))) (kI (K := $(Lean.mkIdent `K))))) $(Lean.mkIdent `hm) (fun x nxt $(Lean.mkIdent `hm) => ?step) (fun ys $(Lean.mkIdent `hm) D => ?_)); (case step => intro D ys r s $(Lean.mkIdent `q1) $(Lean.mkIdent `q2); repeat (walk_at "go"))) | ((with_reducible refine' c_lcSt (kSt (K := $(Lean.mkIdent `K))) $(Lean.mkIdent `hm) (fun x nxt $(Lean.mkIdent `hm) => ?step) (fun ys $(Lean.mkIdent `hm) D => ?_)); (case step => intro D ys r s $(Lean.mkIdent `q1) $(Lean.mkIdent `q2); repeat (walk_at "go"))) | ((with_reducible refine' c_lcKT (kB (K := $(Lean.mkIdent `K))) $(Lean.mkIdent `hm) ?t (fun x nxt $(Lean.mkIdent `hm) => ?step) (fun ys $(Lean.mkIdent `hm) D => ?_)); (case t => walk_at "el"); (case step => intro v D ys r s $(Lean.mkIdent `q1) $(Lean.mkIdent `q2); revert v; walk_at "nv"; repeat (walk_at "go"))) | ((with_reducible refine' c_lcKT (kO (kU (kSt (K := $(Lean.mkIdent `K))) (kI (K := $(Lean.mkIdent `K))))) $(Lean.mkIdent `hm) ?t (fun x nxt $(Lean.mkIdent `hm) => ?step) (fun ys $(Lean.mkIdent `hm) D => ?_)); (case t => walk_at "el"); (case step => intro v D ys r s $(Lean.mkIdent `q1) $(Lean.mkIdent `q2); revert v; walk_at "nv"; repeat (walk_at "go"))) | ((with_reducible refine' c_lcKT (kSt (K := $(Lean.mkIdent `K))) $(Lean.mkIdent `hm) ?t (fun x nxt $(Lean.mkIdent `hm) => ?step) (fun ys $(Lean.mkIdent `hm) D => ?_)); (case t => walk_at "el"); (case step => intro v D ys r s $(Lean.mkIdent `q1) $(Lean.mkIdent `q2); revert v; walk_at "nv"; repeat (walk_at "go"))) | ((with_reducible refine' c_lcLs (kB (K := $(Lean.mkIdent `K))) $(Lean.mkIdent `hm) ?t (fun x nxt $(Lean.mkIdent `hm) => ?step) (fun ys $(Lean.mkIdent `hm) D => ?_)); (case t => walk_at "fr"); (case step => intro v D ys r s $(Lean.mkIdent `q1) $(Lean.mkIdent `q2); revert v; walk_at "nv"; repeat (walk_at "go"))) | ((with_reducible refine' c_lcEn (kB (K := $(Lean.mkIdent `K))) $(Lean.mkIdent `hm) ?t (fun x nxt $(Lean.mkIdent `hm) => ?step) (fun ys $(Lean.mkIdent `hm) D => ?_)); (case t => walk_at "fr"); (case step => intro T v D ys r s $(Lean.mkIdent `q1) $(Lean.mkIdent `q2); refine Ent.swp ?_; revert v; walk_at "nv"; repeat (walk_at "go"))) | ((with_reducible refine' c_lcItI (kB (K := $(Lean.mkIdent `K))) $(Lean.mkIdent `hm) ?i ?t (fun x nxt $(Lean.mkIdent `hm) => ?step) (fun ys $(Lean.mkIdent `hm) D => ?_)); (case i => (try dsimp only); rfl); (case t => walk_at "fr0"); (case step => intro od kvs T v D ys r s $(Lean.mkIdent `q1) $(Lean.mkIdent `q2); refine Ent.swp ?_; revert v; walk_at "nv"; repeat (walk_at "go"))) | ((with_reducible refine' c_lcR1 (kB (K := $(Lean.mkIdent `K))) $(Lean.mkIdent `hm) (fun x nxt $(Lean.mkIdent `hm) => ?step) (fun ys $(Lean.mkIdent `hm) D => ?_)); (case step => intro v D ys r s $(Lean.mkIdent `q1) $(Lean.mkIdent `q2); revert v; walk_at "nv"; repeat (walk_at "go"))) | ((with_reducible refine' c_lcR2 (kB (K := $(Lean.mkIdent `K))) $(Lean.mkIdent `hm) (fun x nxt $(Lean.mkIdent `hm) => ?step) (fun ys $(Lean.mkIdent `hm) D => ?_)); (case step => intro v D ys r s $(Lean.mkIdent `q1) $(Lean.mkIdent `q2); revert v; walk_at "nv"; repeat (walk_at "go"))) | ((with_reducible refine' c_lcLs (kO (kU (kSt (K := $(Lean.mkIdent `K))) (kI (K := $(Lean.mkIdent `K))))) $(Lean.mkIdent `hm) ?t (fun x nxt $(Lean.mkIdent `hm) => ?step) (fun ys $(Lean.mkIdent `hm) D => ?_)); (case t => walk_at "fr"); (case step => intro v D ys r s $(Lean.mkIdent `q1) $(Lean.mkIdent `q2); revert v; walk_at "nv"; repeat (walk_at "go"))) | ((with_reducible refine' c_lcEn (kO (kU (kSt (K := $(Lean.mkIdent `K))) (kI (K := $(Lean.mkIdent `K))))) $(Lean.mkIdent `hm) ?t (fun x nxt $(Lean.mkIdent `hm) => ?step) (fun ys $(Lean.mkIdent `hm) D => ?_)); (case t => walk_at "fr"); (case step => intro T v D ys r s $(Lean.mkIdent `q1) $(Lean.mkIdent `q2); refine Ent.swp ?_; revert v; walk_at "nv"; repeat (walk_at "go"))) | ((with_reducible refine' c_lcItI (kO (kU (kSt (K := $(Lean.mkIdent `K))) (kI (K := $(Lean.mkIdent `K))))) $(Lean.mkIdent `hm) ?i ?t (fun x nxt $(Lean.mkIdent `hm) => ?step) (fun ys $(Lean.mkIdent `hm) D => ?_)); (case i => (try dsimp only); rfl); (case t => walk_at "fr0"); (case step => intro od kvs T v D ys r s $(Lean.mkIdent `q1) $(Lean.mkIdent `q2); refine Ent.swp ?_; revert v; walk_at "nv"; repeat (walk_at "go"))) | ((with_reducible refine' c_lcR1 (kO (kU (kSt (K := $(Lean.mkIdent `K))) (kI (K := $(Lean.mkIdent `K))))) $(Lean.mkIdent `hm) (fun x nxt $(Lean.mkIdent `hm) => ?step) (fun ys $(Lean.mkIdent `hm) D => ?_)); (case step => intro v D ys r s $(Lean.mkIdent `q1) $(Lean.mkIdent `q2); revert v; walk_at "nv"; repeat (walk_at "go"))) | ((with_reducible refine' c_lcR2 (kO (kU (kSt (K := $(Lean.mkIdent `K))) (kI (K := $(Lean.mkIdent `K))))) $(Lean.mkIdent `hm) (fun x nxt $(Lean.mkIdent `hm) => ?step) (fun ys $(Lean.mkIdent `hm) D => ?_)); (case step => intro v D ys r s $(Lean.mkIdent `q1) $(Lean.mkIdent `q2); revert v; walk_at "nv"; repeat (walk_at "go"))) | ((with_reducible refine' c_lcLs (kSt (K := $(Lean.mkIdent `K))) $(Lean.mkIdent `hm) ?t (fun x nxt $(Lean.mkIdent `hm) => ?step) (fun ys $(Lean.mkIdent `hm) D => ?_)); (case t => walk_at "fr"); (case step => intro v D ys r s $(Lean.mkIdent `q1) $(Lean.mkIdent `q2); revert v; walk_at "nv"; repeat (walk_at "go"))) | ((with_reducible refine' c_lcEn (kSt (K := $(Lean.mkIdent `K))) $(Lean.mkIdent `hm) ?t (fun x nxt $(Lean.mkIdent `hm) => ?step) (fun ys $(Lean.mkIdent `hm) D => ?_)); (case t => walk_at "fr"); (case step => intro T v D ys r s $(Lean.mkIdent `q1) $(Lean.mkIdent `q2); refine Ent.swp ?_; revert v; walk_at "nv"; repeat (walk_at "go"))) | ((with_reducible refine' c_lcItI (kSt (K := $(Lean.mkIdent `K))) $(Lean.mkIdent `hm) ?i ?t (fun x nxt $(Lean.mkIdent `hm) => ?step) (fun ys $(Lean.mkIdent `hm) D => ?_)); (case i => (try dsimp only); rfl); (case t => walk_at "fr0"); (case step => intro od kvs T v D ys r s $(Lean.mkIdent `q1) $(Lean.mkIdent `q2); refine Ent.swp ?_; revert v; walk_at "nv"; repeat (walk_at "go"))) | ((with_reducible refine' c_lcR1 (kSt (K := $(Lean.mkIdent `K))) $(Lean.mkIdent `hm) (fun x nxt $(Lean.mkIdent `hm) => ?step) (fun ys $(Lean.mkIdent `hm) D => ?_)); (case step => intro v D ys r s $(Lean.mkIdent `q1) $(Lean.mkIdent `q2); revert v; walk_at "nv"; repeat (walk_at "go"))) | ((with_reducible refine' c_lcR2 (kSt (K := $(Lean.mkIdent `K))) $(Lean.mkIdent `hm) (fun x nxt $(Lean.mkIdent `hm) => ?step) (fun ys $(Lean.mkIdent `hm) D => ?_)); (case step => intro v D ys r s $(Lean.mkIdent `q1) $(Lean.mkIdent `q2); revert v; walk_at "nv"; repeat (walk_at "go"))))
open PySem L2 Toy in
local macro_rules | `(tactic| walk_at "cE") => `(tactic| first | ((with_reducible refine' c_cutE (kI (K := $(Lean.mkIdent `K))) $(Lean.mkIdent `hm) (fun jp $(Lean.mkIdent `hm) => ?q) (fun x $(Lean.mkIdent `hm) => ?_)); (case q => repeat (walk_at "go")); walk_at "nv") | ((with_reducible refine' c_cutL (kSt (K := $(Lean.mkIdent `K))) $(Lean.mkIdent `hm) (fun jp $(Lean.mkIdent `hm) => ?q) (fun x $(Lean.mkIdent `hm) _ => ?_)); (case q => repeat (walk_at "go"))) | ((with_reducible refine' c_cutE (kO (kI (K := $(Lean.mkIdent `K)))) $(Lean.mkIdent `hm) (fun jp $(Lean.mkIdent `hm) => ?q) (fun x $(Lean.mkIdent `hm) => ?_)); (case q => repeat (walk_at "go")); walk_at "nv") | ((with_reducible refine' c_cutS $(Lean.mkIdent `hm) (fun jp $(Lean.mkIdent `hm) => ?q) (fun x $(Lean.mkIdent `hm) => ?_)); (case q => repeat (walk_at "go"))))
open PySem L2 Toy in
local macro_rules | `(tactic| walk_at "rpr") => `(tactic| first | ((with_reducible refine' c_reprD (C := (ctE (kO (kT (kU (kSt (K := $(Lean.mkIdent `K))) (kI (K := $(Lean.mkIdent `K)))))))) $(Lean.mkIdent `hm) ?h ?e (fun $(Lean.mkIdent `hm) => ?_)); (case h => walk_at "ct"); (case e => rfl)) | ((with_reducible refine' c_reprOt (E := (kU (kSt (K := $(Lean.mkIdent `K))) (kI (K := $(Lean.mkIdent `K))))) $(Lean.mkIdent `hm) ?h ?e (fun $(Lean.mkIdent `hm) => ?_)); (case h => walk_at "el"); (case e => rfl)) | ((with_reducible refine' c_reprD (C := (ctE (kO (kT (kO (kU (kSt (K := $(Lean.mkIdent `K))) (kI (K := $(Lean.mkIdent `K))))))))) $(Lean.mkIdent `hm) ?h ?e (fun $(Lean.mkIdent `hm) => ?_)); (case h => walk_at "ct"); (case e => rfl)) | ((with_reducible refine' c_reprOt (E := (kO (kU (kSt (K := $(Lean.mkIdent `K))) (kI (K := $(Lean.mkIdent `K)))))) $(Lean.mkIdent `hm) ?h ?e (fun $(Lean.mkIdent `hm) => ?_)); (case h => walk_at "el"); (case e => rfl)) | ((with_reducible refine' c_reprD (C := (ctE (kT (kU (kSt (K := $(Lean.mkIdent `K))) (kI (K := $(Lean.mkIdent `K))))))) $(Lean.mkIdent `hm) ?h ?e (fun $(Lean.mkIdent `hm) => ?_)); (case h => walk_at "ct"); (case e => rfl)) | ((with_reducible refine' c_reprVt (E := (kU (kSt (K := $(Lean.mkIdent `K))) (kI (K := $(Lean.mkIdent `K))))) $(Lean.mkIdent `hm) ?h ?e (fun $(Lean.mkIdent `hm) => ?_)); (case h => walk_at "el"); (case e => rfl)) | ((with_reducible refine' c_reprD (C := (ctE (kT (kO (kU (kSt (K := $(Lean.mkIdent `K))) (kI (K := $(Lean.mkIdent `K)))))))) $(Lean.mkIdent `hm) ?h ?e (fun $(Lean.mkIdent `hm) => ?_)); (case h => walk_at "ct"); (case e => rfl)) | ((with_reducible refine' c_reprVt (E := (kO (kU (kSt (K := $(Lean.mkIdent `K))) (kI (K := $(Lean.mkIdent `K)))))) $(Lean.mkIdent `hm) ?h ?e (fun $(Lean.mkIdent `hm) => ?_)); (case h => walk_at "el"); (case e => rfl)))
open PySem L2 Toy in
local macro_rules | `(tactic| walk_at "frz") => `(tactic| first | fail)
open PySem L2 Toy in
local macro_rules | `(tactic| walk_at "tslc") => `(tactic| first | fail "")
open PySem L2 Toy in
local macro_rules | `(tactic| walk_at "tcat") => `(tactic| first | fail "")
open PySem L2 Toy in
local macro_rules | `(tactic| walk_at "lcS") => `(tactic| first | ((with_reducible refine' c_lcSq (kB (K := $(Lean.mkIdent `K))) $(Lean.mkIdent `hm) ?t (fun x nxt $(Lean.mkIdent `hm) => ?step) (fun ys $(Lean.mkIdent `hm) D => ?_)); (case t => walk_at "sq2"); (case step => intro v D ys r s $(Lean.mkIdent `q1) $(Lean.mkIdent `q2); revert v; walk_at "nv"; repeat (walk_at "go"))) | ((with_reducible refine' c_lcFz (kB (K := $(Lean.mkIdent `K))) $(Lean.mkIdent `hm) ?t (fun x nxt $(Lean.mkIdent `hm) => ?step) (fun ys $(Lean.mkIdent `hm) D => ?_)); (case t => walk_at "fr0"); (case step => intro v D ys r s $(Lean.mkIdent `q1) $(Lean.mkIdent `q2); revert v; walk_at "nv"; repeat (walk_at "go"))) | ((with_reducible refine' c_lcSq (kO (kU (kSt (K := $(Lean.mkIdent `K))) (kI (K := $(Lean.mkIdent `K))))) $(Lean.mkIdent `hm) ?t (fun x nxt $(Lean.mkIdent `hm) => ?step) (fun ys $(Lean.mkIdent `hm) D => ?_)); (case t => walk_at "sq2"); (case step => intro v D ys r s $(Lean.mkIdent `q1) $(Lean.mkIdent `q2); revert v; walk_at "nv"; repeat (walk_at "go"))) | ((with_reducible refine' c_lcFz (kO (kU (kSt (K := $(Lean.mkIdent `K))) (kI (K := $(Lean.mkIdent `K))))) $(Lean.mkIdent `hm) ?t (fun x nxt $(Lean.mkIdent `hm) => ?step) (fun ys $(Lean.mkIdent `hm) D => ?_)); (case t => walk_at "fr0"); (case step => intro v D ys r s $(Lean.mkIdent `q1) $(Lean.mkIdent `q2); revert v; walk_at "nv"; repeat (walk_at "go"))) | ((with_reducible refine' c_lcSq (kSt (K := $(Lean.mkIdent `K))) $(Lean.mkIdent `hm) ?t (fun x nxt $(Lean.mkIdent `hm) => ?step) (fun ys $(Lean.mkIdent `hm) D => ?_)); (case t => walk_at "sq2"); (case step => intro v D ys r s $(Lean.mkIdent `q1) $(Lean.mkIdent `q2); revert v; walk_at "nv"; repeat (walk_at "go"))) | ((with_reducible refine' c_lcFz (kSt (K := $(Lean.mkIdent `K))) $(Lean.mkIdent `hm) ?t (fun x nxt $(Lean.mkIdent `hm) => ?step) (fun ys $(Lean.mkIdent `hm) D => ?_)); (case t => walk_at "fr0"); (case step => intro v D ys r s $(Lean.mkIdent `q1) $(Lean.mkIdent `q2); revert v; walk_at "nv"; repeat (walk_at "go"))))
open PySem L2 Toy in
local macro_rules | `(tactic| walk_at "rep") => `(tactic| first | fail)
open PySem L2 Toy in
local macro_rules | `(tactic| walk_at "cat") => `(tactic| first | ((with_reducible refine' c_cat (E := (kO (kU (kSt (K := $(Lean.mkIdent `K))) (kI (K := $(Lean.mkIdent `K)))))) $(Lean.mkIdent `hm) ?t ?g (fun $(Lean.mkIdent `hm) _ => ?_)); (case t => walk_at "fr"); (case g => walk_at "fr")) | ((with_reducible refine' c_catZ (kO (kU (kSt (K := $(Lean.mkIdent `K))) (kI (K := $(Lean.mkIdent `K))))) $(Lean.mkIdent `hm) ?t ?g (fun $(Lean.mkIdent `hm) _ => ?_)); (case t => walk_at "rdl"); (case g => walk_at "rdl")) | ((with_reducible refine' c_cat (E := (kSt (K := $(Lean.mkIdent `K)))) $(Lean.mkIdent `hm) ?t ?g (fun $(Lean.mkIdent `hm) _ => ?_)); (case t => walk_at "fr"); (case g => walk_at "fr")) | ((with_reducible refine' c_catZ (kSt (K := $(Lean.mkIdent `K))) $(Lean.mkIdent `hm) ?t ?g (fun $(Lean.mkIdent `hm) _ => ?_)); (case t => walk_at "rdl"); (case g => walk_at "rdl")))
open PySem L2 Toy in
local macro_rules | `(tactic| walk_at "sF") => `(tactic| first
  | ((with_reducible refine' e_is_integer__V_o $(Lean.mkIdent `hm) ?h_value   (fun _ $(Lean.mkIdent `hm) => ?_)); (case h_value => walk_at "el"))
  | ((with_reducible refine' e_is_count__V_o $(Lean.mkIdent `hm) ?h_value   (fun _ $(Lean.mkIdent `hm) => ?_)); (case h_value => walk_at "el"))
  | ((with_reducible refine' e_is_instruction_value $(Lean.mkIdent `hm) ?h_value   (fun _ $(Lean.mkIdent `hm) => ?_)); (case h_value => walk_at "el"))
  | ((with_reducible refine' e_is_instruction_value__V_o $(Lean.mkIdent `hm) ?h_value   (fun _ $(Lean.mkIdent `hm) => ?_)); (case h_value => walk_at "el"))
  | ((with_reducible refine' e_want_instruction $(Lean.mkIdent `hm) ?h_value   (fun _ $(Lean.mkIdent `hm) => ?_)); (case h_value => walk_at "el"); walk_at "nv")
  | ((with_reducible refine' e_listing_text $(Lean.mkIdent `hm) ?h_instruction   (fun _ $(Lean.mkIdent `hm) => ?_)); (case h_instruction => walk_at "el"))
  | ((with_reducible refine' e_register_in $(Lean.mkIdent `hm)    (fun _ $(Lean.mkIdent `hm) => ?_)); walk_at "nv")
  | ((with_reducible refine' e_integer_in $(Lean.mkIdent `hm)    (fun _ $(Lean.mkIdent `hm) => ?_)); walk_at "nv")
  | ((with_reducible refine' e_listing_instruction $(Lean.mkIdent `hm)    (fun _ $(Lean.mkIdent `hm) => ?_)); walk_at "nv")
  | ((with_reducible refine' e_text_of $(Lean.mkIdent `hm) ?h_instruction   (fun _ $(Lean.mkIdent `hm) => ?_)); (case h_instruction => walk_at "el"))
  | ((with_reducible refine' e_instruction_of $(Lean.mkIdent `hm)    (fun _ $(Lean.mkIdent `hm) => ?_) (fun $(Lean.mkIdent `hm) d => ?qxo)); (case qxo => walk_at "exo"); walk_at "nv")
  | ((with_reducible refine' e__law_names $(Lean.mkIdent `hm)    (fun _ $(Lean.mkIdent `hm) => ?_)); walk_at "nv")
  | ((with_reducible refine' e__law_form $(Lean.mkIdent `hm)    (fun _ $(Lean.mkIdent `hm) => ?_)))
  | ((with_reducible refine' e__law_shape $(Lean.mkIdent `hm)    (fun _ $(Lean.mkIdent `hm) => ?_)); walk_at "nv")
  | ((with_reducible refine' e__law_drawn $(Lean.mkIdent `hm)  ?t_pot_here  (fun _ $(Lean.mkIdent `hm) => ?_)); (case t_pot_here => walk_at "fr"); walk_at "nv")
  | ((with_reducible refine' e__law_text $(Lean.mkIdent `hm) ?h_told   (fun _ $(Lean.mkIdent `hm) => ?_)); (case h_told => walk_at "el"))
  | ((with_reducible refine' e__law_number $(Lean.mkIdent `hm)    (fun _ $(Lean.mkIdent `hm) => ?_)); walk_at "nv")
  | ((with_reducible refine' e__law_read $(Lean.mkIdent `hm)    (fun _ $(Lean.mkIdent `hm) => ?_)); walk_at "nv")
  | ((with_reducible refine' e__law_heard $(Lean.mkIdent `hm)    (fun _ $(Lean.mkIdent `hm) => ?_)); walk_at "nv")
  | ((with_reducible refine' e__law_bent $(Lean.mkIdent `hm)  ?t_pot_here  (fun _ $(Lean.mkIdent `hm) => ?_)); (case t_pot_here => walk_at "fr")))

section
variable {P : Program} {w : World} {K : PySem.W.Frag} {mg : Str → Option Value} {base : Heap} {a : Ad}
theorem ok_CoreError___init__ (T : Txt w K mg a) : FnOk P w K mg base (L2.CX P w) 1 a.f_CoreError___init__ a.d_CoreError___init__ ["self", "value"] (spCore K) := by
  refine T.F_CoreError___init__.okX sc_CoreError___init__ (fun vs H Q E h => ?_) (fun cdv A outer s H vs Q E hr h => ?_)
  · obtain ⟨_, _, _, rfl, _⟩ := h
    rfl
  · obtain ⟨x, C, v, rfl, hC, hn, hx, k⟩ := h
    refine ⟨_, (pss_one (ps_ost (pv 0) (pv 1))), ?_⟩
    exact ⟨_, rfl, _, rfl, x, C, rfl, hC, hn, .inl ⟨hx, fun dx n ne => k dx n ne⟩⟩
theorem ok_is_integer (T : Txt w K mg a) : FnOk P w K mg base (L2.CX P w) 1 a.f_is_integer a.d_is_integer ["value"] (spInt K) := by
  refine T.F_is_integer.okX sc_is_integer (fun vs H Q E h => ?_) (fun cdv A outer s H vs Q E hr h => ?_)
  · obtain ⟨_, _, rfl, _⟩ := h
    rfl
  · obtain ⟨v, b, rfl, ⟨t, b1, b2, ty, e1, e2, rfl⟩, k⟩ := h
    refine ⟨_, (pss_one (ps_ret (pe_and (pe_callB call_isi (by rfl) T.z_isinstance (by decide +kernel) (pa_cons (pv 0) (pa_cons (pe_bltn (v := .ty "int") (u := .type "int") (by rfl) T.z_int (by decide +kernel) rfl) pa_nil))) (pe_one (pe_not (pe_callB call_isi (by rfl) T.z_isinstance (by decide +kernel) (pa_cons (pv 0) (pa_cons (pe_bltn (v := .ty "bool") (u := .type "bool") (by rfl) T.z_bool (by decide +kernel) rfl) pa_nil)))))))), ?_⟩
    refine ⟨_, rfl, v, _, t, _, b1, rfl, .ty "int", ty, e1, b1, rfl, ?_⟩
    cases b1 with
    | false => exact k
    | true => exact ⟨_, rfl, v, _, t, _, b2, rfl, .ty "bool", ty, e2 rfl, b2, rfl, k⟩
theorem ok_is_integer__V_o (T : Txt w K mg a) : FnOk P w K mg base (L2.CX P w) 1 a.f_is_integer a.d_is_integer ["value"] (sp_is_integer__V_o K a) := by
  refine T.F_is_integer.okX sc_is_integer (fun vs H Q E h => ?_) (fun cdv A outer s H vs Q E hr h => ?_)
  · obtain ⟨_, _, _, _, rfl, _⟩ := h
    rfl
  · obtain ⟨value, v_value, F, k, rfl, hH, hm, q⟩ := h
    refine ⟨_, (pss_one (ps_ret (pe_and (pe_callB (isiK (K := K)) (by rfl) T.z_isinstance (by decide +kernel) (pa_cons (pv 0) (pa_cons (pe_bltn (v := .ty "int") (u := .type "int") (by rfl) T.z_int (by decide +kernel) rfl) pa_nil))) (pe_one (pe_not (pe_callB (isiK (K := K)) (by rfl) T.z_isinstance (by decide +kernel) (pa_cons (pv 0) (pa_cons (pe_bltn (v := .ty "bool") (u := .type "bool") (by rfl) T.z_bool (by decide +kernel) rfl) pa_nil)))))))), ?_⟩
    try simp only [cxOf_K]
    refine w_in (σ := [some _]) rfl ?_
    refine Holds.go hH ?_
    unfold m_is_integer__V_o at hm
    repeat (walk_at "go")
theorem ok_is_count (T : Txt w K mg a) : FnOk P w K mg base (L2.CX P w) 2 a.f_is_count a.d_is_count ["value"] (spCount K) := by
  refine T.F_is_count.okX sc_is_count (fun vs H Q E h => ?_) (fun cdv A outer s H vs Q E hr h => ?_)
  · obtain ⟨_, rfl, _⟩ := h
    rfl
  · obtain ⟨v, rfl, hk, k⟩ := h
    refine ⟨_, (pss_one (ps_ret (pe_and (pe_call (ok_is_integer (K := K) T) (hr.mono (by decide)) (by rfl) T.m_is_integer T.F_is_integer.kp T.b_is_integer .nil passL (pa_cons (pv 0) pa_nil)) (pe_one (pe_cmpR op_ge (pv 0) pe_int (nomark _)))))), ?_⟩
    refine ⟨_, rfl, v, _, rfl, hk, _, rfl, ?_⟩
    cases v with
    | int n => exact ⟨_, rfl, _, _, rfl, rfl, k⟩
    | _ => exact k
theorem ok_is_count__V_o (T : Txt w K mg a) : FnOk P w K mg base (L2.CX P w) 2 a.f_is_count a.d_is_count ["value"] (sp_is_count__V_o K a) := by
  refine T.F_is_count.okX sc_is_count (fun vs H Q E h => ?_) (fun cdv A outer s H vs Q E hr h => ?_)
  · obtain ⟨_, _, _, _, rfl, _⟩ := h
    rfl
  · obtain ⟨value, v_value, F, k, rfl, hH, hm, q⟩ := h
    refine ⟨_, (pss_one (ps_ret (pe_and (pe_call (ok_is_integer__V_o (K := K) T) (hr.mono (by decide)) (by rfl) T.m_is_integer T.F_is_integer.kp T.b_is_integer .nil passL (pa_cons (pv 0) pa_nil)) (pe_one (pe_cmpR op_ge (pv 0) pe_int (nomark _)))))), ?_⟩
    try simp only [cxOf_K]
    refine w_in (σ := [some _]) rfl ?_
    refine Holds.go hH ?_
    unfold m_is_count__V_o at hm
    repeat (walk_at "go")
theorem ok_is_instruction_value (T : Txt w K mg a) : FnOk P w K mg base (L2.CX P w) 3 a.f_is_instruction_value a.d_is_instruction_value ["value"] (sp_is_instruction_value K a) := by
  refine T.F_is_instruction_value.okX sc_is_instruction_value (fun vs H Q E h => ?_) (fun cdv A outer s H vs Q E hr h => ?_)
  · obtain ⟨_, _, _, _, rfl, _⟩ := h
    rfl
  · obtain ⟨value, v_value, F, k, rfl, hH, hm, q⟩ := h
    refine ⟨_, (pss_cons (ps_if (PW.pt (pw_or (pt_not (pt_val (pe_callB (isiK (K := K)) (by rfl) T.z_isinstance (by decide +kernel) (pa_cons (pv 0) (pa_cons (pe_bltn (v := .ty "tuple") (u := .type "tuple") (by rfl) T.z_tuple (by decide +kernel) rfl) pa_nil))))) (pw_or (pt_cmpR op_eq (pe_callB (call_lenK (K := K)) (by rfl) T.z_len (by decide +kernel) (pa_cons (pv 0) pa_nil)) pe_int (nomark _)) (pw_or (pt_not (pt_val (pe_callB (isiK (K := K)) (by rfl) T.z_isinstance (by decide +kernel) (pa_cons (pe_ix ix_tup (pv 0) pe_int (fun _ _ => rfl)) (pa_cons (pe_bltn (v := .ty "str") (u := .type "str") (by rfl) T.z_str (by decide +kernel) rfl) pa_nil))))) (pw_or1 (pt_cmpR (op_niKT (K := K) (w := w)) (pe_ix ix_tup (pv 0) pe_int (fun _ _ => rfl)) (pe_glob (v := .ref a.t_FORMS) (by rfl) T.v_FORMS rfl) (by rfl))))))) (pss_one (ps_ret pe_bl)) pss_nil)
      (pss_cons (ps_asg (pe_ix (ixKD (K := K) (w := w)) (pe_glob (v := .ref a.t_SHAPES) (by rfl) T.v_SHAPES rfl) (pe_ix (ixKD (K := K) (w := w)) (pe_glob (v := .ref a.t_FORMS) (by rfl) T.v_FORMS rfl) (pe_ix ix_tup (pv 0) pe_int (fun _ _ => rfl)) (fun _ _ => rfl)) (fun _ _ => rfl)) (pg_tup rfl (pgs_cons (pg_name (i := 1) sc_is_instruction_value.nd rfl (Or.inl rfl)) (pgs_cons (pg_name (i := 2) sc_is_instruction_value.nd rfl (Or.inl rfl)) (pgs_cons (pg_name (i := 3) sc_is_instruction_value.nd rfl (Or.inl rfl)) (pgs_cons (pg_name (i := 4) sc_is_instruction_value.nd rfl (Or.inl rfl)) pgs_nil))))))
      (pss_cons (ps_if (pt_cmpR op_ne (pe_callB (call_lenK (K := K)) (by rfl) T.z_len (by decide +kernel) (pa_cons (pv 0) pa_nil)) (pe_op op_add (pe_op op_add pe_int (pv 1)) (pe_callTy call_int1 (by rfl) T.z_int (by decide +kernel) (pa_cons (pe_cmpR op_gt (pv 2) pe_int (nomark _)) pa_nil))) (nomark _)) (pss_one (ps_ret pe_bl)) pss_nil)
      (pss_cons (ps_if (pt_not (pt_val (pe_callB (cr_all rfl) (by rfl) T.z_all (by decide +kernel) (pa_cons (pe_lc (own := [("one", 5)]) (g := gName 5) (tt := tYes) rfl sc_is_instruction_value.nd (pi_tup (pe_slice (slTA (K := K)) (pv 0) (po_some pe_int) (po_some (pe_op op_add pe_int (pv 1))))) (blkOk_by (N := ["value", "registers", "wide", "least", "most", "one"]) (sc := defScope s_is_instruction_value) (by decide +kernel)) (fun _ _ _ _ _ => (pg_name (i := 5) sc_is_instruction_value.nd rfl (Or.inl rfl))) (fun _ _ _ _ _ => pts_nil) (fun _ _ _ _ _ => (pe_and (pe_call (ok_is_count (K := K) T) (hr.mono (by decide)) (by rfl) T.m_is_count T.F_is_count.kp T.b_is_count .nil passL (pa_cons (pv 5) pa_nil)) (pe_one (pe_cmpR op_le (pv 5) (pe_glob (v := .int 7) (by rfl) T.v_MOST_REGISTER ⟨_, rfl⟩) (nomark _)))))) pa_nil)))) (pss_one (ps_ret pe_bl)) pss_nil)
      (pss_one (ps_ret (pe_or (pe_cmpR op_eq (pv 2) pe_int (nomark _)) (pe_one (pe_and (pe_call (ok_is_integer (K := K) T) (hr.mono (by decide)) (by rfl) T.m_is_integer T.F_is_integer.kp T.b_is_integer .nil passL (pa_cons (pe_ix ix_tup (pv 0) (pe_un un_neg pe_int) (fun _ _ => rfl)) pa_nil)) (pe_one (pe_chain op_le op_le (pv 3) (pe_ix ix_tup (pv 0) (pe_un un_neg pe_int) (fun _ _ => rfl)) (pv 4)))))))))))), ?_⟩
    try simp only [cxOf_K]
    refine w_in (σ := [some _, none, none, none, none, none]) rfl ?_
    refine Holds.go hH ?_
    unfold m_is_instruction_value at hm
    repeat (walk_at "go")
theorem ok_is_instruction_value__V_o (T : Txt w K mg a) : FnOk P w K mg base (L2.CX P w) 3 a.f_is_instruction_value a.d_is_instruction_value ["value"] (sp_is_instruction_value__V_o K a) := by
  refine T.F_is_instruction_value.okX sc_is_instruction_value (fun vs H Q E h => ?_) (fun cdv A outer s H vs Q E hr h => ?_)
  · obtain ⟨_, _, _, _, rfl, _⟩ := h
    rfl
  · obtain ⟨value, v_value, F, k, rfl, hH, hm, q⟩ := h
    refine ⟨_, (pss_cons (ps_if (PW.pt (pw_or (pt_not (pt_val (pe_callB (isiK (K := K)) (by rfl) T.z_isinstance (by decide +kernel) (pa_cons (pv 0) (pa_cons (pe_bltn (v := .ty "tuple") (u := .type "tuple") (by rfl) T.z_tuple (by decide +kernel) rfl) pa_nil))))) (pw_or (pt_cmpR op_eq (pe_callB (call_lenK (K := K)) (by rfl) T.z_len (by decide +kernel) (pa_cons (pv 0) pa_nil)) pe_int (nomark _)) (pw_or (pt_not (pt_val (pe_callB (isiK (K := K)) (by rfl) T.z_isinstance (by decide +kernel) (pa_cons (pe_ix ix_tup (pv 0) pe_int (fun _ _ => rfl)) (pa_cons (pe_bltn (v := .ty "str") (u := .type "str") (by rfl) T.z_str (by decide +kernel) rfl) pa_nil))))) (pw_or1 (pt_cmpR (op_niKT (K := K) (w := w)) (pe_ix ix_tup (pv 0) pe_int (fun _ _ => rfl)) (pe_glob (v := .ref a.t_FORMS) (by rfl) T.v_FORMS rfl) (by rfl))))))) (pss_one (ps_ret pe_bl)) pss_nil)
      (pss_cons (ps_asg (pe_ix (ixKD (K := K) (w := w)) (pe_glob (v := .ref a.t_SHAPES) (by rfl) T.v_SHAPES rfl) (pe_ix (ixKD (K := K) (w := w)) (pe_glob (v := .ref a.t_FORMS) (by rfl) T.v_FORMS rfl) (pe_ix ix_tup (pv 0) pe_int (fun _ _ => rfl)) (fun _ _ => rfl)) (fun _ _ => rfl)) (pg_tup rfl (pgs_cons (pg_name (i := 1) sc_is_instruction_value.nd rfl (Or.inl rfl)) (pgs_cons (pg_name (i := 2) sc_is_instruction_value.nd rfl (Or.inl rfl)) (pgs_cons (pg_name (i := 3) sc_is_instruction_value.nd rfl (Or.inl rfl)) (pgs_cons (pg_name (i := 4) sc_is_instruction_value.nd rfl (Or.inl rfl)) pgs_nil))))))
      (pss_cons (ps_if (pt_cmpR op_ne (pe_callB (call_lenK (K := K)) (by rfl) T.z_len (by decide +kernel) (pa_cons (pv 0) pa_nil)) (pe_op op_add (pe_op op_add pe_int (pv 1)) (pe_callTy call_int1 (by rfl) T.z_int (by decide +kernel) (pa_cons (pe_cmpR op_gt (pv 2) pe_int (nomark _)) pa_nil))) (nomark _)) (pss_one (ps_ret pe_bl)) pss_nil)
      (pss_cons (ps_if (pt_not (pt_val (pe_callB (cr_all rfl) (by rfl) T.z_all (by decide +kernel) (pa_cons (pe_lc (own := [("one", 5)]) (g := gName 5) (tt := tYes) rfl sc_is_instruction_value.nd (pi_tup (pe_slice (slTA (K := K)) (pv 0) (po_some pe_int) (po_some (pe_op op_add pe_int (pv 1))))) (blkOk_by (N := ["value", "registers", "wide", "least", "most", "one"]) (sc := defScope s_is_instruction_value) (by decide +kernel)) (fun _ _ _ _ _ => (pg_name (i := 5) sc_is_instruction_value.nd rfl (Or.inl rfl))) (fun _ _ _ _ _ => pts_nil) (fun _ _ _ _ _ => (pe_and (pe_call (ok_is_count__V_o (K := K) T) (hr.mono (by decide)) (by rfl) T.m_is_count T.F_is_count.kp T.b_is_count .nil passL (pa_cons (pv 5) pa_nil)) (pe_one (pe_cmpR op_le (pv 5) (pe_glob (v := .int 7) (by rfl) T.v_MOST_REGISTER ⟨_, rfl⟩) (nomark _)))))) pa_nil)))) (pss_one (ps_ret pe_bl)) pss_nil)
      (pss_one (ps_ret (pe_or (pe_cmpR op_eq (pv 2) pe_int (nomark _)) (pe_one (pe_and (pe_call (ok_is_integer__V_o (K := K) T) (hr.mono (by decide)) (by rfl) T.m_is_integer T.F_is_integer.kp T.b_is_integer .nil passL (pa_cons (pe_ix ix_tup (pv 0) (pe_un un_neg pe_int) (fun _ _ => rfl)) pa_nil)) (pe_one (pe_chain op_le op_le (pv 3) (pe_ix ix_tup (pv 0) (pe_un un_neg pe_int) (fun _ _ => rfl)) (pv 4)))))))))))), ?_⟩
    try simp only [cxOf_K]
    refine w_in (σ := [some _, none, none, none, none, none]) rfl ?_
    refine Holds.go hH ?_
    unfold m_is_instruction_value__V_o at hm
    repeat (walk_at "go")
theorem ok_want_instruction (T : Txt w K mg a) : FnOk P w K mg base (L2.CX P w) 4 a.f_want_instruction a.d_want_instruction ["value"] (sp_want_instruction K a) := by
  refine T.F_want_instruction.okX sc_want_instruction (fun vs H Q E h => ?_) (fun cdv A outer s H vs Q E hr h => ?_)
  · obtain ⟨_, _, _, _, rfl, _⟩ := h
    rfl
  · obtain ⟨value, v_value, F, k, rfl, hH, hm, q⟩ := h
    refine ⟨_, (pss_cons (ps_if (pt_not (pt_val (pe_call (ok_is_instruction_value (K := K) T) (hr.mono (by decide)) (by rfl) T.m_is_instruction_value T.F_is_instruction_value.kp T.b_is_instruction_value .nil passL (pa_cons (pv 0) pa_nil)))) (pss_one ps_never) pss_nil)
      (pss_one (ps_ret (pv 0)))), ?_⟩
    try simp only [cxOf_K]
    refine w_in (σ := [some _]) rfl ?_
    refine Holds.go hH ?_
    unfold m_want_instruction at hm
    repeat (walk_at "go")
theorem ok_listing_text (T : Txt w K mg a) : FnOk P w K mg base (L2.CX P w) 1 a.f_listing_text a.d_listing_text ["instruction"] (sp_listing_text K a) := by
  refine T.F_listing_text.okX sc_listing_text (fun vs H Q E h => ?_) (fun cdv A outer s H vs Q E hr h => ?_)
  · obtain ⟨_, _, _, _, rfl, _⟩ := h
    rfl
  · obtain ⟨instruction, v_instruction, F, k, rfl, hH, hm, q⟩ := h
    refine ⟨_, (pss_cons (ps_set (i := 1) sc_listing_text.nd rfl (Or.inl rfl) (pe_ix ix_tup (pe_ix (ixKD (K := K) (w := w)) (pe_glob (v := .ref a.t_SHAPES) (by rfl) T.v_SHAPES rfl) (pe_ix (ixKD (K := K) (w := w)) (pe_glob (v := .ref a.t_FORMS) (by rfl) T.v_FORMS rfl) (pe_ix ix_tup (pv 0) pe_int (fun _ _ => rfl)) (fun _ _ => rfl)) (fun _ _ => rfl)) pe_int (fun _ _ => rfl)))
      (pss_cons (ps_set (i := 2) sc_listing_text.nd rfl (Or.inl rfl) (pe_op op_cat (pe_lst (pa_cons (pe_ix ix_tup (pv 0) pe_int (fun _ _ => rfl)) pa_nil)) (pe_lc (own := [("one", 3)]) (g := gName 3) (tt := tYes) rfl sc_listing_text.nd (pi_tup (pe_slice (slTA (K := K)) (pv 0) (po_some pe_int) (po_some (pe_op op_add pe_int (pv 1))))) (blkOk_by (N := ["instruction", "registers", "words", "one", "number"]) (sc := defScope s_listing_text) (by decide +kernel)) (fun _ _ _ _ _ => (pg_name (i := 3) sc_listing_text.nd rfl (Or.inl rfl))) (fun _ _ _ _ _ => pts_nil) (fun _ _ _ _ _ => (pe_js2 pe_str (pe_fmt (pv 3)))))))
      (pss_one (ps_ret (pe_joinT (K := K) pe_str (pe_op op_cat (pv 2) (pe_lc (own := [("number", 4)]) (g := gName 4) (tt := tYes) rfl sc_listing_text.nd (pi_tup (pe_slice (slTA (K := K)) (pv 0) (po_some (pe_op op_add pe_int (pv 1))) po_none)) (blkOk_by (N := ["instruction", "registers", "words", "one", "number"]) (sc := defScope s_listing_text) (by decide +kernel)) (fun _ _ _ _ _ => (pg_name (i := 4) sc_listing_text.nd rfl (Or.inl rfl))) (fun _ _ _ _ _ => pts_nil) (fun _ _ _ _ _ => (pe_joined1 (pe_fmt (pv 4))))))))))), ?_⟩
    try simp only [cxOf_K]
    refine w_in (σ := [some _, none, none, none, none]) rfl ?_
    refine Holds.go hH ?_
    unfold m_listing_text at hm
    repeat (walk_at "go")
theorem ok_register_in (T : Txt w K mg a) : FnOk P w K mg base (L2.CX P w) 1 a.f_register_in a.d_register_in ["word"] (sp_register_in K a) := by
  refine T.F_register_in.okX sc_register_in (fun vs H Q E h => ?_) (fun cdv A outer s H vs Q E hr h => ?_)
  · obtain ⟨_, _, _, rfl, _⟩ := h
    rfl
  · obtain ⟨word, F, k, rfl, hH, hm, q⟩ := h
    refine ⟨_, (pss_cons (ps_if (PW.pt (pw_or (pt_cmpR op_ne (pe_callB call_lenS (by rfl) T.z_len (by decide +kernel) (pa_cons (pv 0) pa_nil)) pe_int (nomark _)) (pw_or (pt_cmpR op_ne (pe_ix ix_str (pv 0) pe_int (fun _ _ => rfl)) pe_str (nomark _)) (pw_or (pt_cmpR op_niSg (pe_ix ix_str (pv 0) pe_int (fun _ _ => rfl)) (pe_glob (v := .str "0123456789") (by rfl) T.v_FIGURES ⟨_, rfl⟩) (by rfl)) (pw_or1 (pt_cmpR op_gt (pe_callTy call_intS (by rfl) T.z_int (by decide +kernel) (pa_cons (pe_ix ix_str (pv 0) pe_int (fun _ _ => rfl)) pa_nil)) (pe_glob (v := .int 7) (by rfl) T.v_MOST_REGISTER ⟨_, rfl⟩) (nomark _))))))) (pss_one (ps_ret pe_non)) pss_nil)
      (pss_one (ps_ret (pe_callTy call_intS (by rfl) T.z_int (by decide +kernel) (pa_cons (pe_ix ix_str (pv 0) pe_int (fun _ _ => rfl)) pa_nil))))), ?_⟩
    try simp only [cxOf_K]
    refine w_in (σ := [some _]) rfl ?_
    refine Holds.go hH ?_
    unfold m_register_in at hm
    repeat (walk_at "go")
theorem ok_integer_in (T : Txt w K mg a) : FnOk P w K mg base (L2.CX P w) 1 a.f_integer_in a.d_integer_in ["word"] (sp_integer_in K a) := by
  refine T.F_integer_in.okX sc_integer_in (fun vs H Q E h => ?_) (fun cdv A outer s H vs Q E hr h => ?_)
  · obtain ⟨_, _, _, rfl, _⟩ := h
    rfl
  · obtain ⟨word, F, k, rfl, hH, hm, q⟩ := h
    refine ⟨_, (pss_cons (ps_set (i := 1) sc_integer_in.nd rfl (Or.inl rfl) (pe_cut (pe_ifExp (pt_cmpR op_eq (pe_slice sl_str (pv 0) po_none (po_some pe_int)) pe_str (nomark _)) (pe_slice sl_str (pv 0) (po_some pe_int) po_none) (pv 0))))
      (pss_cons (ps_if (PW.pt (pw_or (pt_not (pt_chain op_le op_le pe_int (pe_callB call_lenS (by rfl) T.z_len (by decide +kernel) (pa_cons (pv 1) pa_nil)) (pe_glob (v := .int 3) (by rfl) T.v_MOST_FIGURES ⟨_, rfl⟩))) (pw_or1 (pt_not (pt_val (pe_callB (cr_all rfl) (by rfl) T.z_all (by decide +kernel) (pa_cons (pe_lc (own := [("sign", 2)]) (g := gName 2) (tt := tYes) rfl sc_integer_in.nd (pi_str (pv 1)) (blkOk_by (N := ["word", "told", "sign"]) (sc := defScope s_integer_in) (by decide +kernel)) (fun _ _ _ _ _ => (pg_name (i := 2) sc_integer_in.nd rfl (Or.inl rfl))) (fun _ _ _ _ _ => pts_nil) (fun _ _ _ _ _ => (pe_cmpR op_inSg (pv 2) (pe_glob (v := .str "0123456789") (by rfl) T.v_FIGURES ⟨_, rfl⟩) (by rfl)))) pa_nil))))))) (pss_one (ps_ret pe_non)) pss_nil)
      (pss_cons (ps_if (pt_cut (PW.pt (pw_and (pt_cmpR op_eq (pe_ix ix_str (pv 1) pe_int (fun _ _ => rfl)) pe_str (nomark _)) (pw_and1 (pt_cmpR op_ne (pv 0) pe_str (nomark _)))))) (pss_one (ps_ret pe_non)) pss_nil)
      (pss_one (ps_ret (pe_callTy call_intS (by rfl) T.z_int (by decide +kernel) (pa_cons (pv 0) pa_nil))))))), ?_⟩
    try simp only [cxOf_K]
    refine w_in (σ := [some _, none, none]) rfl ?_
    refine Holds.go hH ?_
    unfold m_integer_in at hm
    repeat (walk_at "go")
theorem ok_listing_instruction (T : Txt w K mg a) : FnOk P w K mg base (L2.CX P w) 4 a.f_listing_instruction a.d_listing_instruction ["text"] (sp_listing_instruction K a) := by
  refine T.F_listing_instruction.okX sc_listing_instruction (fun vs H Q E h => ?_) (fun cdv A outer s H vs Q E hr h => ?_)
  · obtain ⟨_, _, _, rfl, _⟩ := h
    rfl
  · obtain ⟨text, F, k, rfl, hH, hm, q⟩ := h
    refine ⟨_, (pss_cons (ps_if (pt_not (pt_val (pe_callB (isiK (K := K)) (by rfl) T.z_isinstance (by decide +kernel) (pa_cons (pv 0) (pa_cons (pe_bltn (v := .ty "str") (u := .type "str") (by rfl) T.z_str (by decide +kernel) rfl) pa_nil))))) (pss_one (ps_ret pe_non)) pss_nil)
      (pss_cons (ps_set (i := 1) sc_listing_instruction.nd rfl (Or.inl rfl) (pe_splitT (pv 0) pe_str))
      (pss_cons (ps_if (pt_cmpR (op_niKT (K := K) (w := w)) (pe_ix ix_list (pv 1) pe_int (fun _ _ => rfl)) (pe_glob (v := .ref a.t_FORMS) (by rfl) T.v_FORMS rfl) (by rfl)) (pss_one (ps_ret pe_non)) pss_nil)
      (pss_cons (ps_set (i := 2) sc_listing_instruction.nd rfl (Or.inl rfl) (pe_ix ix_tup (pe_ix (ixKD (K := K) (w := w)) (pe_glob (v := .ref a.t_SHAPES) (by rfl) T.v_SHAPES rfl) (pe_ix (ixKD (K := K) (w := w)) (pe_glob (v := .ref a.t_FORMS) (by rfl) T.v_FORMS rfl) (pe_ix ix_list (pv 1) pe_int (fun _ _ => rfl)) (fun _ _ => rfl)) (fun _ _ => rfl)) pe_int (fun _ _ => rfl)))
      (pss_cons (ps_set (i := 3) sc_listing_instruction.nd rfl (Or.inl rfl) (pe_op op_cat (pe_lst (pa_cons (pe_ix ix_list (pv 1) pe_int (fun _ _ => rfl)) pa_nil)) (pe_lc (own := [("word", 4)]) (g := gName 4) (tt := tYes) rfl sc_listing_instruction.nd (pi_list (pe_slice sl_list (pv 1) (po_some pe_int) (po_some (pe_op op_add pe_int (pv 2))))) (blkOk_by (N := ["text", "words", "registers", "found", "word"]) (sc := defScope s_listing_instruction) (by decide +kernel)) (fun _ _ _ _ _ => (pg_name (i := 4) sc_listing_instruction.nd rfl (Or.inl rfl))) (fun _ _ _ _ _ => pts_nil) (fun _ _ _ _ _ => (pe_call (ok_register_in (K := K) T) (hr.mono (by decide)) (by rfl) T.m_register_in T.F_register_in.kp T.b_register_in .nil passL (pa_cons (pv 4) pa_nil))))))
      (pss_cons (ps_set (i := 3) sc_listing_instruction.nd rfl (Or.inl rfl) (pe_op op_cat (pv 3) (pe_lc (own := [("word", 4)]) (g := gName 4) (tt := tYes) rfl sc_listing_instruction.nd (pi_list (pe_slice sl_list (pv 1) (po_some (pe_op op_add pe_int (pv 2))) po_none)) (blkOk_by (N := ["text", "words", "registers", "found", "word"]) (sc := defScope s_listing_instruction) (by decide +kernel)) (fun _ _ _ _ _ => (pg_name (i := 4) sc_listing_instruction.nd rfl (Or.inl rfl))) (fun _ _ _ _ _ => pts_nil) (fun _ _ _ _ _ => (pe_call (ok_integer_in (K := K) T) (hr.mono (by decide)) (by rfl) T.m_integer_in T.F_integer_in.kp T.b_integer_in .nil passL (pa_cons (pv 4) pa_nil))))))
      (pss_one (ps_ret (pe_ifExp (pt_val (pe_call (ok_is_instruction_value__V_o (K := K) T) (hr.mono (by decide)) (by rfl) T.m_is_instruction_value T.F_is_instruction_value.kp T.b_is_instruction_value .nil passL (pa_cons (pe_callTy (call_tupK (K := K)) (by rfl) T.z_tuple (by decide +kernel) (pa_cons (pv 3) pa_nil)) pa_nil))) (pe_callTy (call_tupK (K := K)) (by rfl) T.z_tuple (by decide +kernel) (pa_cons (pv 3) pa_nil)) pe_non))))))))), ?_⟩
    try simp only [cxOf_K]
    refine w_in (σ := [some _, none, none, none, none]) rfl ?_
    refine Holds.go hH ?_
    unfold m_listing_instruction at hm
    repeat (walk_at "go")
theorem ok_text_of (T : Txt w K mg a) : FnOk P w K mg base (L2.CX P w) 5 a.f_text_of a.d_text_of ["instruction"] (sp_text_of K a) := by
  refine T.F_text_of.okX sc_text_of (fun vs H Q E h => ?_) (fun cdv A outer s H vs Q E hr h => ?_)
  · obtain ⟨_, _, _, _, rfl, _⟩ := h
    rfl
  · obtain ⟨instruction, v_instruction, F, k, rfl, hH, hm, q⟩ := h
    refine ⟨_, (pss_one (ps_ret (pe_call (ok_listing_text (K := K) T) (hr.mono (by decide)) (by rfl) T.m_listing_text T.F_listing_text.kp T.b_listing_text .nil passL (pa_cons (pe_call (ok_want_instruction (K := K) T) (hr.mono (by decide)) (by rfl) T.m_want_instruction T.F_want_instruction.kp T.b_want_instruction .nil passL (pa_cons (pv 0) pa_nil)) pa_nil)))), ?_⟩
    try simp only [cxOf_K]
    refine w_in (σ := [some _]) rfl ?_
    refine Holds.go hH ?_
    unfold m_text_of at hm
    repeat (walk_at "go")
theorem ok_instruction_of (T : Txt w K mg a) : FnOk P w K mg base (L2.CX P w) 5 a.f_instruction_of a.d_instruction_of ["text"] (sp_instruction_of K a) := by
  refine T.F_instruction_of.okX sc_instruction_of (fun vs H Q E h => ?_) (fun cdv A outer s H vs Q E hr h => ?_)
  · obtain ⟨_, _, _, _, rfl, _⟩ := h
    rfl
  · obtain ⟨text, F, k, xr, rfl, hH, hm, q, qx⟩ := h
    refine ⟨_, (pss_cons (ps_set (i := 1) sc_instruction_of.nd rfl (Or.inl rfl) (pe_call (ok_listing_instruction (K := K) T) (hr.mono (by decide)) (by rfl) T.m_listing_instruction T.F_listing_instruction.kp T.b_listing_instruction .nil passL (pa_cons (pv 0) pa_nil)))
      (pss_cons (ps_if (pt_cmpR op_isNR (pv 1) pe_non (nomark _)) (pss_one (ps_raise rfl (takes_of rfl rfl rfl rfl) (pmk_oex T.x_InvalidListing T.xi_InvalidListing T.xt_CoreError___init__ (ok_CoreError___init__ (K := K) T) (hr.mono (by decide)) T.b_CoreError___init__ .nil passL (by rfl) T.g_InvalidListing (pa_cons (pv 0) pa_nil)))) pss_nil)
      (pss_one (ps_ret (pv 1))))), ?_⟩
    try simp only [cxOf_K]
    refine w_in (σ := [some _, none]) rfl ?_
    refine Holds.go hH ?_
    unfold m_instruction_of at hm
    repeat (walk_at "go")
theorem ok__law_pot (T : Txt w K mg a) : FnOk P w K mg base (L2.CX P w) 1 a.f__law_pot a.d__law_pot ["_law_script", "_law_k"] (aPot K) := by
  refine T.F__law_pot.okX sc__law_pot (fun vs H Q E h => ?_) (fun cdv A outer s H vs Q E hr h => ?_)
  · obtain ⟨_, _, _, _, rfl, _⟩ := h
    rfl
  · obtain ⟨sa, ns, k, F, rfl, hH, hk0, hk1, q⟩ := h
    refine ⟨_, (pss_cons (ps_set (i := 2) sc__law_pot.nd rfl (Or.inl rfl) (pe_ifExp (pt_cmpR op_lt (pv 1) (pe_callB (call_lenK (K := K)) (by rfl) T.z_len (by decide +kernel) (pa_cons (pv 0) pa_nil)) (nomark _)) (pe_callB call_abs (by rfl) T.z_abs (by decide +kernel) (pa_cons (pe_ix ix_list (pv 0) (pv 1) (fun _ _ => rfl)) pa_nil)) (pe_op op_add (pe_op op_mul pe_int (pv 1)) pe_int)))
      (pss_one (ps_ret (pe_lst (pa_cons (pe_callB (call_max2 rfl) (by rfl) T.z_max (by decide +kernel) (pa_cons pe_int (pa_cons (pe_op op_sub (pv 2) (pe_op op_pow pe_int pe_int)) pa_nil))) (pa_cons (pe_op op_add (pe_op op_mod (pe_callTy call_int1 (by rfl) T.z_int (by decide +kernel) (pa_cons (pe_op op_add (pe_op op_add (pe_op op_mul (pe_op op_mod (pe_callTy call_int1 (by rfl) T.z_int (by decide +kernel) (pa_cons (pv 2) pa_nil)) pe_int) pe_int) (pe_op op_mul pe_int (pv 1))) pe_int) pa_nil)) pe_int) pe_int) pa_nil)))))), ?_⟩
    try simp only [cxOf_K]
    refine w_in (σ := [some _, some _, none]) rfl ?_
    refine Holds.go hH ?_
    repeat (walk_at "st")
    refine eS (fun h => ?_) (fun h => ?_)
    · obtain ⟨n, _, e, _⟩ := atI_ints hk0 h
      repeat (walk_at "st")
      exact Ent.sub (Sub.pot ⟨by split <;> omega, by omega, by omega⟩) (q _)
    · repeat (walk_at "st")
      exact Ent.sub (Sub.pot ⟨by split <;> omega, by omega, by omega⟩) (q _)
theorem ok__law_draw (T : Txt w K mg a) : FnOk P w K mg base (L2.CX P w) 1 a.f__law_draw a.d__law_draw ["_law_pot_here", "_law_size"] aDraw := by
  refine T.F__law_draw.okX sc__law_draw (fun vs H Q E h => ?_) (fun cdv A outer s H vs Q E hr h => ?_)
  · obtain ⟨_, _, _, rfl, _⟩ := h
    rfl
  · obtain ⟨p, n, F, rfl, hH, hn, hn2, q⟩ := h
    refine ⟨_, (pss_cons (ps_if (pt_cmpR op_gt (pe_ix ix_list (pv 0) pe_int (fun _ _ => rfl)) pe_int (nomark _)) (pss_cons (ps_asg (pe_callB call_divK (by rfl) T.z_divmod (by decide +kernel) (pa_cons (pe_ix ix_list (pv 0) pe_int (fun _ _ => rfl)) (pa_cons (pv 1) pa_nil))) (pg_tup rfl (pgs_cons (pg_sub (pv 0) pe_int set_list) (pgs_cons (pg_name (i := 2) sc__law_draw.nd rfl (Or.inl rfl)) pgs_nil))))
      (pss_one (ps_ret (pv 2)))) pss_nil)
      (pss_cons (ps_asg (pe_op op_mod (pe_callTy call_int1 (by rfl) T.z_int (by decide +kernel) (pa_cons (pe_op op_add (pe_op op_mul (pe_ix ix_list (pv 0) pe_int (fun _ _ => rfl)) pe_int) pe_int) pa_nil)) pe_int) (pg_sub (pv 0) pe_int set_list))
      (pss_one (ps_ret (pe_op op_mod (pe_callTy call_int1 (by rfl) T.z_int (by decide +kernel) (pa_cons (pe_op op_fdiv (pe_op op_mod (pe_callTy call_int1 (by rfl) T.z_int (by decide +kernel) (pa_cons (pe_op op_mul (pe_ix ix_list (pv 0) pe_int (fun _ _ => rfl)) (pe_ix ix_list (pv 0) pe_int (fun _ _ => rfl))) pa_nil)) pe_int) pe_int) pa_nil)) (pv 1)))))), ?_⟩
    try simp only [cxOf_K]
    refine w_in (σ := [some _, some _, none]) rfl ?_
    refine Holds.go hH ?_
    refine Ent.pot fun x y hx hy hy2 => ?_
    repeat (walk_at "st")
    refine eS (fun h => ?_) (fun h => ?_)
    · repeat (walk_at "st")
      refine Ent.sub ?_ (q _ (Int.emod_nonneg _ (by omega)) (Int.emod_lt_of_pos _ hn))
      exact Sub.trans (Sub.pot ⟨Int.ediv_nonneg hx (by omega), hy, hy2⟩) (Sub.cons (Sub.drop Sub.refl))
    · repeat (walk_at "st")
      refine Ent.sub ?_ (q _ (Int.emod_nonneg _ (by omega)) (Int.emod_lt_of_pos _ hn))
      exact Sub.pot ⟨hx, by omega, by omega⟩
theorem ok__law_pick (T : Txt w K mg a) : FnOk P w K mg base (L2.CX P w) 2 a.f__law_pick a.d__law_pick ["_law_pot_here", "_law_some"] (aPick K) := by
  refine T.F__law_pick.okX sc__law_pick (fun vs H Q E h => ?_) (fun cdv A outer s H vs Q E hr h => ?_)
  · obtain ⟨_, _, _, _, _, rfl, _⟩ := h
    rfl
  · obtain ⟨p, s, n, F, G, rfl, hH, h0, h1, hk, q⟩ := h
    refine ⟨_, (pss_one (ps_ret (pe_ix ix_list (pv 1) (pe_call (ok__law_draw (K := K) T) (hr.mono (by decide)) (by rfl) T.m__law_draw T.F__law_draw.kp T.b__law_draw .nil passL (pa_cons (pv 0) (pa_cons (pe_callB (call_lenK (K := K)) (by rfl) T.z_len (by decide +kernel) (pa_cons (pv 1) pa_nil)) pa_nil))) (fun _ _ => rfl)))), ?_⟩
    try simp only [cxOf_K]
    refine w_in (σ := [some _, some _]) rfl ?_
    refine Holds.go hH ?_
    repeat (walk_at "st")
    refine fun H k => ?_
    obtain ⟨us, hl, hs, _⟩ := hk H k
    refine ⟨s, us, rfl, .inl hs, ?_⟩
    dsimp only
    refine (fun (e : Ent (PotA p :: F) fun H => tNil [some (.ref p), some (.ref s)] H fun xs H2 => aDraw (.ref p :: V.int us.length :: xs) H2 (fun y H2 => rIxL K (.ref s) y H2 Q) E0) => e H k) ?_
    repeat (walk_at "st")
    refine e_draw take_here (by omega) (by omega) fun d d0 d1 => ?_
    refine fun H k => ?_
    obtain ⟨us, hl, hs, hg⟩ := hk H k
    obtain ⟨v, hv, e, e2⟩ := atI_mem (xs := us) d0 (by omega)
    exact ⟨s, us, d, v, rfl, rfl, hs, e, q d.toNat v (by omega) H (hg _ _ e2)⟩
theorem ok__law_names (T : Txt w K mg a) : FnOk P w K mg base (L2.CX P w) 1 a.f__law_names a.d__law_names [] (sp__law_names K a) := by
  refine T.F__law_names.okX sc__law_names (fun vs H Q E h => ?_) (fun cdv A outer s H vs Q E hr h => ?_)
  · obtain ⟨_, _, rfl, _⟩ := h
    rfl
  · obtain ⟨F, k, rfl, hH, hm, q⟩ := h
    refine ⟨_, (pss_cons (ps_set (i := 0) sc__law_names.nd rfl (Or.inl rfl) (pe_lst (pa_cons pe_str (pa_cons pe_str (pa_cons pe_str (pa_cons pe_str (pa_cons pe_str (pa_cons pe_str (pa_cons pe_str (pa_cons pe_str (pa_cons pe_str (pa_cons pe_str (pa_cons pe_str (pa_cons pe_str (pa_cons pe_str pa_nil)))))))))))))))
      (pss_one (ps_ret (pe_op op_cat (pv 0) (pe_lst (pa_cons pe_str (pa_cons pe_str (pa_cons pe_str (pa_cons pe_str (pa_cons pe_str (pa_cons pe_str (pa_cons pe_str (pa_cons pe_str (pa_cons pe_str (pa_cons pe_str (pa_cons pe_str (pa_cons pe_str (pa_cons pe_str pa_nil)))))))))))))))))), ?_⟩
    try simp only [cxOf_K]
    refine w_in (σ := [none]) rfl ?_
    refine Holds.go hH ?_
    unfold m__law_names at hm
    repeat (walk_at "go")
theorem ok__law_form (T : Txt w K mg a) : FnOk P w K mg base (L2.CX P w) 2 a.f__law_form a.d__law_form ["_law_name"] (sp__law_form K a) := by
  refine T.F__law_form.okX sc__law_form (fun vs H Q E h => ?_) (fun cdv A outer s H vs Q E hr h => ?_)
  · obtain ⟨_, _, _, rfl, _⟩ := h
    rfl
  · obtain ⟨name, F, k, rfl, hH, hm, q⟩ := h
    refine ⟨_, (pss_cons (ps_set (i := 1) sc__law_form.nd rfl (Or.inr rfl) (pe_bm PySem.F.plainAttrs_list PySem.F.slot_list_index PySem.F.type_list_index (mtIndexK (K := K)) (pe_call0 (ok__law_names (K := K) T) (hr.mono (by decide)) (by rfl) T.m__law_names T.F__law_names.kp T.b__law_names .nil passL) (pa_cons (pv 0) pa_nil)))
      (pss_cons (ps_set (i := 2) sc__law_form.nd rfl (Or.inl rfl) (pe_lst (pa_cons (pe_tup (pa_cons pe_int (pa_cons pe_str pa_nil))) (pa_cons (pe_tup (pa_cons pe_int (pa_cons pe_str pa_nil))) (pa_cons (pe_tup (pa_cons pe_int (pa_cons pe_str pa_nil))) (pa_cons (pe_tup (pa_cons pe_int (pa_cons pe_str pa_nil))) (pa_cons (pe_tup (pa_cons pe_int (pa_cons pe_str pa_nil))) (pa_cons (pe_tup (pa_cons pe_int (pa_cons pe_str pa_nil))) (pa_cons (pe_tup (pa_cons pe_int (pa_cons pe_str pa_nil))) pa_nil)))))))))
      (pss_one (ps_ret (pe_ix ix_list (pe_lc (own := [("_law_most", 3), ("_law_form_here", 4)]) (g := (gTup K 2 (gCons (gName 3) (gCons (gName 4) gNil)))) rfl sc__law_form.nd (pi_list (pv 2)) (blkOk_by (N := ["_law_name", "_law_at", "_law_forms", "_law_most", "_law_form_here"]) (sc := defScope s__law_form) (by decide +kernel)) (fun _ _ _ _ _ => by exact (pg_tup rfl (pgs_cons (pg_name (i := 3) sc__law_form.nd rfl (Or.inl rfl)) (pgs_cons (pg_name (i := 4) sc__law_form.nd rfl (Or.inl rfl)) pgs_nil)))) (fun _ _ _ _ _ => (pts_one (pt_cmpR op_lt (pv 1) (pv 3) (nomark _)))) (fun _ _ _ _ _ => (pv 4))) pe_int (fun _ _ => rfl)))))), ?_⟩
    try simp only [cxOf_K]
    refine w_in (σ := [some _, none, none, none, none]) rfl ?_
    refine Holds.go hH ?_
    unfold m__law_form at hm
    repeat (walk_at "go")
theorem ok__law_shape (T : Txt w K mg a) : FnOk P w K mg base (L2.CX P w) 1 a.f__law_shape a.d__law_shape ["_law_form_here"] (sp__law_shape K a) := by
  refine T.F__law_shape.okX sc__law_shape (fun vs H Q E h => ?_) (fun cdv A outer s H vs Q E hr h => ?_)
  · obtain ⟨_, _, _, rfl, _⟩ := h
    rfl
  · obtain ⟨form_here, F, k, rfl, hH, hm, q⟩ := h
    refine ⟨_, (pss_cons (ps_if (pt_cmpR op_eq (pv 0) pe_str (nomark _)) (pss_one (ps_ret (pe_tup (pa_cons pe_int (pa_cons pe_non (pa_cons pe_non pa_nil)))))) pss_nil)
      (pss_cons (ps_if (pt_cmpR op_eq (pv 0) pe_str (nomark _)) (pss_one (ps_ret (pe_tup (pa_cons pe_int (pa_cons (pe_un un_neg pe_int) (pa_cons pe_int pa_nil)))))) pss_nil)
      (pss_cons (ps_if (pt_cmpR op_eq (pv 0) pe_str (nomark _)) (pss_one (ps_ret (pe_tup (pa_cons pe_int (pa_cons pe_non (pa_cons pe_non pa_nil)))))) pss_nil)
      (pss_cons (ps_if (pt_cmpR op_eq (pv 0) pe_str (nomark _)) (pss_one (ps_ret (pe_tup (pa_cons pe_int (pa_cons (pe_un un_neg pe_int) (pa_cons pe_int pa_nil)))))) pss_nil)
      (pss_one (ps_ret (pe_tup (pa_cons (pe_cut (pe_ifExp (pt_cmpR op_eq (pv 0) pe_str (nomark _)) pe_int pe_int)) (pa_cons pe_int (pa_cons (pe_cut (pe_ifExp (pt_cmpR op_eq (pv 0) pe_str (nomark _)) pe_int pe_int)) pa_nil)))))))))), ?_⟩
    try simp only [cxOf_K]
    refine w_in (σ := [some _]) rfl ?_
    refine Holds.go hH ?_
    unfold m__law_shape at hm
    repeat (walk_at "go")
theorem ok__law_drawn (T : Txt w K mg a) : FnOk P w K mg base (L2.CX P w) 3 a.f__law_drawn a.d__law_drawn ["_law_pot_here"] (sp__law_drawn K a) := by
  refine T.F__law_drawn.okX sc__law_drawn (fun vs H Q E h => ?_) (fun cdv A outer s H vs Q E hr h => ?_)
  · obtain ⟨_, _, _, rfl, _⟩ := h
    rfl
  · obtain ⟨a_pot_here, F, k, rfl, hH, hm, q⟩ := h
    refine ⟨_, (pss_cons (ps_set (i := 1) sc__law_drawn.nd rfl (Or.inl rfl) (pe_call (ok__law_pick (K := K) T) (hr.mono (by decide)) (by rfl) T.m__law_pick T.F__law_pick.kp T.b__law_pick .nil passL (pa_cons (pv 0) (pa_cons (pe_call0 (ok__law_names (K := K) T) (hr.mono (by decide)) (by rfl) T.m__law_names T.F__law_names.kp T.b__law_names .nil passL) pa_nil))))
      (pss_cons (ps_asg (pe_call (ok__law_shape (K := K) T) (hr.mono (by decide)) (by rfl) T.m__law_shape T.F__law_shape.kp T.b__law_shape .nil passL (pa_cons (pe_call (ok__law_form (K := K) T) (hr.mono (by decide)) (by rfl) T.m__law_form T.F__law_form.kp T.b__law_form .nil passL (pa_cons (pv 1) pa_nil)) pa_nil)) (pg_tup rfl (pgs_cons (pg_name (i := 2) sc__law_drawn.nd rfl (Or.inl rfl)) (pgs_cons (pg_name (i := 3) sc__law_drawn.nd rfl (Or.inl rfl)) (pgs_cons (pg_name (i := 4) sc__law_drawn.nd rfl (Or.inl rfl)) pgs_nil)))))
      (pss_cons (ps_set (i := 5) sc__law_drawn.nd rfl (Or.inl rfl) (pe_lst pa_nil))
      (pss_cons (ps_for (passes_of rfl) rfl (pi_range1 (by rfl) T.z_range (pa_cons (pv 2) pa_nil)) (pg_name (i := 6) sc__law_drawn.nd rfl (Or.inl rfl))
      (pss_one (ps_expr (pe_bm PySem.F.plainAttrs_list PySem.F.slot_list_append PySem.F.type_list_append mt_append (pv 5) (pa_cons (pe_call (ok__law_draw (K := K) T) (hr.mono (by decide)) (by rfl) T.m__law_draw T.F__law_draw.kp T.b__law_draw .nil passL (pa_cons (pv 0) (pa_cons pe_int pa_nil))) pa_nil)))))
      (Evl.pss_cut (ps_if (pt_cmpR op_noNR (pv 3) pe_non (nomark _)) (pss_cons (ps_set (i := 7) sc__law_drawn.nd rfl (Or.inl rfl) (pe_op op_add (pv 3) (pe_call (ok__law_draw (K := K) T) (hr.mono (by decide)) (by rfl) T.m__law_draw T.F__law_draw.kp T.b__law_draw .nil passL (pa_cons (pv 0) (pa_cons (pe_op op_add (pe_op op_sub (pv 4) (pv 3)) pe_int) pa_nil)))))
      (pss_one (ps_expr (pe_bm PySem.F.plainAttrs_list PySem.F.slot_list_append PySem.F.type_list_append mt_append (pv 5) (pa_cons (pe_call (ok__law_pick (K := K) T) (hr.mono (by decide)) (by rfl) T.m__law_pick T.F__law_pick.kp T.b__law_pick .nil passL (pa_cons (pv 0) (pa_cons (pe_lst (pa_cons (pv 7) (pa_cons (pv 7) (pa_cons (pv 3) (pa_cons (pv 4) pa_nil))))) pa_nil))) pa_nil))))) pss_nil)
      (pss_one (ps_ret (pe_op (catTA (K := K)) (pe_tup (pa_cons (pv 1) pa_nil)) (pe_callTy (call_tupK (K := K)) (by rfl) T.z_tuple (by decide +kernel) (pa_cons (pv 5) pa_nil)))))))))), ?_⟩
    try simp only [cxOf_K]
    refine w_in (σ := [some _, none, none, none, none, none, none, none]) rfl ?_
    refine Holds.go hH ?_
    unfold m__law_drawn at hm
    repeat (walk_at "gst")
    repeat (walk_at "fold1")
    refine' c_forR (M := (List Int)) (B := Addr × Option V) hm (fun m b => [none, none, none, none, none, some (some (.ref b.1)), some (b.2)]) (fun m b => [ls (kI (K := K)) b.1 m]) (_, _) ?zh2 ?zs2 ?zq2 ?zd2
    case zh2 =>
      (try dsimp only); rfl
    case zs2 =>
      walk_at "subR"
    case zq2 =>
      intro hbk x m b nxt hm
      walk_at "norm"
      repeat (walk_at "go")
    case zd2 =>
      intro m b hm
      walk_at "norm"
      repeat (walk_at "gst")
      refine' c_cut (M := (List Int)) (B := Addr × Option V) (B0 := Addr × (List Int)) hm (fun b => [none, none, none, none, none, some (some (.ref b.1))]) (fun b => [ls (kI (K := K)) b.1 b.2]) (fun m b => [none, none, none, none, none, some (some (.ref b.1)), none, some (b.2)]) (fun m b => [ls (kI (K := K)) b.1 m]) (_, _) ?zh1 ?zs1 ?zq1 ?zd1
      case zh1 =>
        (try dsimp only); rfl
      case zs1 =>
        walk_at "subR"
      case zq1 =>
        intro jp hm
        walk_at "norm"
        repeat (walk_at "go")
      case zd1 =>
        intro m b hm
        walk_at "norm"
        repeat (walk_at "go")
theorem ok__law_text (T : Txt w K mg a) : FnOk P w K mg base (L2.CX P w) 3 a.f__law_text a.d__law_text ["_law_told"] (sp__law_text K a) := by
  refine T.F__law_text.okX sc__law_text (fun vs H Q E h => ?_) (fun cdv A outer s H vs Q E hr h => ?_)
  · obtain ⟨_, _, _, _, rfl, _⟩ := h
    rfl
  · obtain ⟨told, v_told, F, k, rfl, hH, hm, q⟩ := h
    refine ⟨_, (pss_cons (ps_asg (pe_call (ok__law_shape (K := K) T) (hr.mono (by decide)) (by rfl) T.m__law_shape T.F__law_shape.kp T.b__law_shape .nil passL (pa_cons (pe_call (ok__law_form (K := K) T) (hr.mono (by decide)) (by rfl) T.m__law_form T.F__law_form.kp T.b__law_form .nil passL (pa_cons (pe_ix ix_tup (pv 0) pe_int (fun _ _ => rfl)) pa_nil)) pa_nil)) (pg_tup rfl (pgs_cons (pg_name (i := 1) sc__law_text.nd rfl (Or.inl rfl)) (pgs_cons (pg_name (i := 2) sc__law_text.nd rfl (Or.inl rfl)) (pgs_cons (pg_name (i := 3) sc__law_text.nd rfl (Or.inl rfl)) pgs_nil)))))
      (pss_cons (ps_set (i := 4) sc__law_text.nd rfl (Or.inl rfl) (pe_op op_cat (pe_lst (pa_cons (pe_ix ix_tup (pv 0) pe_int (fun _ _ => rfl)) pa_nil)) (pe_lc (own := [("_law_one", 5)]) (g := gName 5) (tt := tYes) rfl sc__law_text.nd (pi_tup (pe_slice (slTA (K := K)) (pv 0) (po_some pe_int) (po_some (pe_op op_add pe_int (pv 1))))) (blkOk_by (N := ["_law_told", "_law_registers", "_law_least", "_law_most", "_law_words", "_law_one"]) (sc := defScope s__law_text) (by decide +kernel)) (fun _ _ _ _ _ => (pg_name (i := 5) sc__law_text.nd rfl (Or.inl rfl))) (fun _ _ _ _ _ => pts_nil) (fun _ _ _ _ _ => (pe_op op_addS pe_str (pe_callTy call_strI (by rfl) T.z_str (by decide +kernel) (pa_cons (pv 5) pa_nil)))))))
      (pss_one (ps_ret (pe_joinT (K := K) pe_str (pe_op op_cat (pv 4) (pe_cut (pe_ifExp (pt_cmpR op_isNR (pv 2) pe_non (nomark _)) (pe_lst pa_nil) (pe_lst (pa_cons (pe_callTy call_strI (by rfl) T.z_str (by decide +kernel) (pa_cons (pe_ix ix_tup (pv 0) (pe_un un_neg pe_int) (fun _ _ => rfl)) pa_nil)) pa_nil)))))))))), ?_⟩
    try simp only [cxOf_K]
    refine w_in (σ := [some _, none, none, none, none, none]) rfl ?_
    refine Holds.go hH ?_
    unfold m__law_text at hm
    repeat (walk_at "go")
theorem ok__law_number (T : Txt w K mg a) : FnOk P w K mg base (L2.CX P w) 1 a.f__law_number a.d__law_number ["_law_word"] (sp__law_number K a) := by
  refine T.F__law_number.okX sc__law_number (fun vs H Q E h => ?_) (fun cdv A outer s H vs Q E hr h => ?_)
  · obtain ⟨_, _, _, rfl, _⟩ := h
    rfl
  · obtain ⟨word, F, k, rfl, hH, hm, q⟩ := h
    refine ⟨_, (pss_cons (ps_set (i := 1) sc__law_number.nd rfl (Or.inl rfl) (pe_cut (pe_ifExp (pt_cmpR op_eq (pe_slice sl_str (pv 0) po_none (po_some pe_int)) pe_str (nomark _)) (pe_slice sl_str (pv 0) (po_some pe_int) po_none) (pv 0))))
      (pss_cons (ps_if (PW.pt (pw_or (pt_cmpR op_eq (pv 1) pe_str (nomark _)) (pw_or (pt_cmpR (op_neC (ctL (ctE (kSt (K := K)))) hr.units) (pe_lc (own := [("_law_sign", 2)]) (g := gName 2) rfl sc__law_number.nd (pi_str (pv 1)) (blkOk_by (N := ["_law_word", "_law_digits", "_law_sign"]) (sc := defScope s__law_number) (by decide +kernel)) (fun _ _ _ _ _ => (pg_name (i := 2) sc__law_number.nd rfl (Or.inl rfl))) (fun _ _ _ _ _ => (pts_one (pt_cmpR op_niSg (pv 2) pe_str (by rfl)))) (fun _ _ _ _ _ => (pv 2))) (pe_lst pa_nil) (nomark _)) (pw_or1 (pt_cmpR op_gt (pe_callB call_lenS (by rfl) T.z_len (by decide +kernel) (pa_cons (pv 1) pa_nil)) pe_int (nomark _)))))) (pss_one (ps_ret pe_non)) pss_nil)
      (pss_one (ps_ret (pe_ifExp (pt_cmpR op_eq (pe_callTy call_strI (by rfl) T.z_str (by decide +kernel) (pa_cons (pe_callTy call_intS (by rfl) T.z_int (by decide +kernel) (pa_cons (pv 0) pa_nil)) pa_nil)) (pv 0) (nomark _)) (pe_callTy call_intS (by rfl) T.z_int (by decide +kernel) (pa_cons (pv 0) pa_nil)) pe_non))))), ?_⟩
    try simp only [cxOf_K]
    refine w_in (σ := [some _, none, none]) rfl ?_
    refine Holds.go hH ?_
    unfold m__law_number at hm
    repeat (walk_at "go")
theorem ok__law_read (T : Txt w K mg a) : FnOk P w K mg base (L2.CX P w) 3 a.f__law_read a.d__law_read ["_law_text_here"] (sp__law_read K a) := by
  refine T.F__law_read.okX sc__law_read (fun vs H Q E h => ?_) (fun cdv A outer s H vs Q E hr h => ?_)
  · obtain ⟨_, _, _, rfl, _⟩ := h
    rfl
  · obtain ⟨text_here, F, k, rfl, hH, hm, q⟩ := h
    refine ⟨_, (pss_cons (ps_set (i := 1) sc__law_read.nd rfl (Or.inl rfl) (pe_splitT (pv 0) pe_str))
      (pss_cons (ps_if (pt_cmpR op_notIn_seq (pe_ix ix_list (pv 1) pe_int (fun _ _ => rfl)) (pe_call0 (ok__law_names (K := K) T) (hr.mono (by decide)) (by rfl) T.m__law_names T.F__law_names.kp T.b__law_names .nil passL) (by rfl)) (pss_one (ps_ret pe_non)) pss_nil)
      (pss_cons (ps_asg (pe_call (ok__law_shape (K := K) T) (hr.mono (by decide)) (by rfl) T.m__law_shape T.F__law_shape.kp T.b__law_shape .nil passL (pa_cons (pe_call (ok__law_form (K := K) T) (hr.mono (by decide)) (by rfl) T.m__law_form T.F__law_form.kp T.b__law_form .nil passL (pa_cons (pe_ix ix_list (pv 1) pe_int (fun _ _ => rfl)) pa_nil)) pa_nil)) (pg_tup rfl (pgs_cons (pg_name (i := 2) sc__law_read.nd rfl (Or.inl rfl)) (pgs_cons (pg_name (i := 3) sc__law_read.nd rfl (Or.inl rfl)) (pgs_cons (pg_name (i := 4) sc__law_read.nd rfl (Or.inl rfl)) pgs_nil)))))
      (pss_cons (ps_if (pt_cmpR op_ne (pe_callB (call_lenK (K := K)) (by rfl) T.z_len (by decide +kernel) (pa_cons (pv 1) pa_nil)) (pe_op op_add (pe_op op_add pe_int (pv 2)) (pe_callTy call_int1 (by rfl) T.z_int (by decide +kernel) (pa_cons (pe_cmpR op_noNR (pv 3) pe_non (nomark _)) pa_nil))) (nomark _)) (pss_one (ps_ret pe_non)) pss_nil)
      (pss_cons (ps_set (i := 5) sc__law_read.nd rfl (Or.inl rfl) (pe_lst pa_nil))
      (pss_cons (ps_for (passes_of rfl) rfl (pi_list (pe_slice sl_list (pv 1) (po_some pe_int) (po_some (pe_op op_add pe_int (pv 2))))) (pg_name (i := 6) sc__law_read.nd rfl (Or.inl rfl))
      (pss_cons (ps_if (PW.pt (pw_or (pt_cmpR op_ne (pe_slice sl_str (pv 6) po_none (po_some pe_int)) pe_str (nomark _)) (pw_or1 (pt_cmpR op_notIn_seq (pe_slice sl_str (pv 6) (po_some pe_int) po_none) (pe_lst (pa_cons pe_str (pa_cons pe_str (pa_cons pe_str (pa_cons pe_str (pa_cons pe_str (pa_cons pe_str (pa_cons pe_str (pa_cons pe_str pa_nil))))))))) (by rfl))))) (pss_one (ps_ret pe_non)) pss_nil)
      (pss_one (ps_expr (pe_bm PySem.F.plainAttrs_list PySem.F.slot_list_append PySem.F.type_list_append mt_append (pv 5) (pa_cons (pe_callTy call_intS (by rfl) T.z_int (by decide +kernel) (pa_cons (pe_slice sl_str (pv 6) (po_some pe_int) po_none) pa_nil)) pa_nil))))))
      (Evl.pss_cut (ps_if (pt_cmpR op_noNR (pv 3) pe_non (nomark _)) (pss_cons (ps_set (i := 7) sc__law_read.nd rfl (Or.inl rfl) (pe_call (ok__law_number (K := K) T) (hr.mono (by decide)) (by rfl) T.m__law_number T.F__law_number.kp T.b__law_number .nil passL (pa_cons (pe_ix ix_list (pv 1) (pe_un un_neg pe_int) (fun _ _ => rfl)) pa_nil)))
      (pss_cons (ps_if (PW.pt (pw_or (pt_cmpR op_isNR (pv 7) pe_non (nomark _)) (pw_or1 (pt_not (pt_chain op_le op_le (pv 3) (pv 7) (pv 4)))))) (pss_one (ps_ret pe_non)) pss_nil)
      (pss_one (ps_expr (pe_bm PySem.F.plainAttrs_list PySem.F.slot_list_append PySem.F.type_list_append mt_append (pv 5) (pa_cons (pv 7) pa_nil)))))) pss_nil)
      (pss_one (ps_ret (pe_op (catTA (K := K)) (pe_tup (pa_cons (pe_ix ix_list (pv 1) pe_int (fun _ _ => rfl)) pa_nil)) (pe_callTy (call_tupK (K := K)) (by rfl) T.z_tuple (by decide +kernel) (pa_cons (pv 5) pa_nil)))))))))))), ?_⟩
    try simp only [cxOf_K]
    refine w_in (σ := [some _, none, none, none, none, none, none, none]) rfl ?_
    refine Holds.go hH ?_
    unfold m__law_read at hm
    repeat (walk_at "gst")
    walk_at "if"
    · repeat (walk_at "gst")
      walk_at "if"
      · repeat (walk_at "gst")
        repeat (walk_at "fold1")
        refine' c_forLs (M := (List Int)) (B := Addr × Option V) hm (fun m b => [none, none, none, none, none, some (some (.ref b.1)), some (b.2)]) (fun m b => [ls (kI (K := K)) b.1 m]) (_, _) ?zh4 ?zs4 ?zt4 ?zq4 ?zd4
        case zh4 =>
          (try dsimp only); rfl
        case zs4 =>
          walk_at "subR"
        case zt4 =>
          walk_at "fr"
        case zq4 =>
          intro hbk x m b nxt hm
          walk_at "norm"
          walk_at "nv"
          repeat (walk_at "go")
        case zd4 =>
          intro m b hm
          walk_at "norm"
          repeat (walk_at "gst")
          refine' c_cut (M := (List Int)) (B := Addr × Option V) (B0 := Addr × (List Int)) hm (fun b => [none, none, none, none, none, some (some (.ref b.1))]) (fun b => [ls (kI (K := K)) b.1 b.2]) (fun m b => [none, none, none, none, none, some (some (.ref b.1)), none, some (b.2)]) (fun m b => [ls (kI (K := K)) b.1 m]) (_, _) ?zh3 ?zs3 ?zq3 ?zd3
          case zh3 =>
            (try dsimp only); rfl
          case zs3 =>
            walk_at "subR"
          case zq3 =>
            intro jp hm
            walk_at "norm"
            repeat (walk_at "go")
          case zd3 =>
            intro m b hm
            walk_at "norm"
            repeat (walk_at "go")
      · repeat (walk_at "go")
    · repeat (walk_at "go")
theorem ok__law_heard (T : Txt w K mg a) : FnOk P w K mg base (L2.CX P w) 6 a.f__law_heard a.d__law_heard ["_law_text_here"] (sp__law_heard K a) := by
  refine T.F__law_heard.okX sc__law_heard (fun vs H Q E h => ?_) (fun cdv A outer s H vs Q E hr h => ?_)
  · obtain ⟨_, _, _, rfl, _⟩ := h
    rfl
  · obtain ⟨text_here, F, k, rfl, hH, hm, q⟩ := h
    refine ⟨_, (pss_cons (ps_set (i := 1) sc__law_heard.nd rfl (Or.inl rfl) pe_non)
      (Evl.pss_cut (ps_try_only rfl rfl ⟨rfl, by decide, .inl T.g_InvalidListing⟩ takes0 (fun W pn xe tk _ => (pss_one (ps_set (i := 1) sc__law_heard.nd rfl (Or.inl rfl) (pe_callN0S (ok_instruction_of (K := K) T) (hr.mono (by decide)) (by rfl) T.m_instruction_of T.F_instruction_of.kp T.kb_instruction_of_0_text (fun σ => passAt tk σ) (pk_cons (pv 0) pk_nil))))) (fun a_ oe cls d pn _ _ => (pss_one (ps_set (i := 1) sc__law_heard.nd rfl (Or.inl rfl) pe_non))))
      (pss_one (ps_ret (pv 1))))), ?_⟩
    try simp only [cxOf_K]
    refine w_in (σ := [some _, none]) rfl ?_
    refine Holds.go hH ?_
    unfold m__law_heard at hm
    repeat (walk_at "gst")
    refine' c_cut (M := (Option (List (Option (Str ⊕ Int))))) (B := V) (B0 := Unit) hm (fun b => []) (fun b => []) (fun m b => [none, some (some (b))]) (fun m b => [vl (kO (kT (kO (kU (kSt (K := K)) (kI (K := K)))))) b m]) () ?zh5 ?zs5 ?zq5 ?zd5
    case zh5 =>
      (try dsimp only); rfl
    case zs5 =>
      walk_at "subR"
    case zq5 =>
      intro jp hm
      walk_at "norm"
      repeat (walk_at "go")
    case zd5 =>
      intro m b hm
      walk_at "norm"
      repeat (walk_at "go")
theorem ok__law_bent (T : Txt w K mg a) : FnOk P w K mg base (L2.CX P w) 3 a.f__law_bent a.d__law_bent ["_law_pot_here", "_law_text_here"] (sp__law_bent K a) := by
  refine T.F__law_bent.okX sc__law_bent (fun vs H Q E h => ?_) (fun cdv A outer s H vs Q E hr h => ?_)
  · obtain ⟨_, _, _, _, rfl, _⟩ := h
    rfl
  · obtain ⟨a_pot_here, text_here, F, k, rfl, hH, hm, q⟩ := h
    refine ⟨_, (pss_cons (ps_par (i := 2) (j := 3) rfl sc__law_bent.nd rfl rfl (by decide) rfl rfl (pa_cons (pe_call (ok__law_draw (K := K) T) (hr.mono (by decide)) (by rfl) T.m__law_draw T.F__law_draw.kp T.b__law_draw .nil passL (pa_cons (pv 0) (pa_cons (pe_callB call_lenS (by rfl) T.z_len (by decide +kernel) (pa_cons (pv 1) pa_nil)) pa_nil))) (pa_cons (pe_call (ok__law_draw (K := K) T) (hr.mono (by decide)) (by rfl) T.m__law_draw T.F__law_draw.kp T.b__law_draw .nil passL (pa_cons (pv 0) (pa_cons pe_int pa_nil))) pa_nil)) (by rfl))
      (pss_cons (ps_if (pt_cmpR op_eq (pv 3) pe_int (nomark _)) (pss_one (ps_ret (pe_op op_addS (pe_slice sl_str (pv 1) po_none (po_some (pv 2))) (pe_slice sl_str (pv 1) (po_some (pe_op op_add (pv 2) pe_int)) po_none)))) pss_nil)
      (pss_cons (ps_if (pt_cmpR op_eq (pv 3) pe_int (nomark _)) (pss_one (ps_ret (pe_op op_addS (pe_op op_addS (pe_slice sl_str (pv 1) po_none (po_some (pv 2))) (pe_call (ok__law_pick (K := K) T) (hr.mono (by decide)) (by rfl) T.m__law_pick T.F__law_pick.kp T.b__law_pick .nil passL (pa_cons (pv 0) (pa_cons (pe_lst (pa_cons pe_str (pa_cons pe_str (pa_cons pe_str (pa_cons pe_str (pa_cons pe_str (pa_cons pe_str (pa_cons pe_str (pa_cons pe_str pa_nil))))))))) pa_nil)))) (pe_slice sl_str (pv 1) (po_some (pv 2)) po_none)))) pss_nil)
      (pss_one (ps_ret (pe_op op_addS (pe_op op_addS (pe_slice sl_str (pv 1) po_none (po_some (pv 2))) (pe_call (ok__law_pick (K := K) T) (hr.mono (by decide)) (by rfl) T.m__law_pick T.F__law_pick.kp T.b__law_pick .nil passL (pa_cons (pv 0) (pa_cons (pe_lst (pa_cons pe_str (pa_cons pe_str (pa_cons pe_str (pa_cons pe_str (pa_cons pe_str (pa_cons pe_str (pa_cons pe_str pa_nil)))))))) pa_nil)))) (pe_slice sl_str (pv 1) (po_some (pe_op op_add (pv 2) pe_int)) po_none))))))), ?_⟩
    try simp only [cxOf_K]
    refine w_in (σ := [some _, some _, none, none]) rfl ?_
    refine Holds.go hH ?_
    unfold m__law_bent at hm
    repeat (walk_at "go")
theorem ok_law (T : Txt w K mg a) : FnG P w K mg base (L2.CX P w) 7 a.f_law a.d_law ["_law_script"] (sp_law K) := by
  refine okG T.F_law sc_law (fun vs H Q E h => ?_) (fun cdv A outer s H vs Q E hgd hr h => ?_)
  · obtain ⟨_, _, rfl, _⟩ := h
    rfl
  · obtain ⟨a_script, script, rfl, hs, hl, q⟩ := h
    have hm := law_ok script hl
    have hH := holds_sq hs
    refine ⟨_, (pss_cons (ps_set (i := 1) sc_law.nd rfl (Or.inl rfl) (pe_call (ok__law_pot (K := K) T) (hr.mono (by decide)) (by rfl) T.m__law_pot T.F__law_pot.kp T.b__law_pot .nil passL (pa_cons (pv 0) (pa_cons pe_int pa_nil))))
      (pss_cons (ps_for (passes_of rfl) rfl (pi_range1 (by rfl) T.z_range (pa_cons pe_int pa_nil)) (pg_name (i := 2) sc_law.nd rfl (Or.inl rfl))
      (pss_cons (ps_set (i := 3) sc_law.nd rfl (Or.inl rfl) (pe_call (ok__law_drawn (K := K) T) (hr.mono (by decide)) (by rfl) T.m__law_drawn T.F__law_drawn.kp T.b__law_drawn .nil passL (pa_cons (pv 1) pa_nil)))
      (pss_cons (ps_set (i := 4) sc_law.nd rfl (Or.inl rfl) (pe_call (ok__law_text (K := K) T) (hr.mono (by decide)) (by rfl) T.m__law_text T.F__law_text.kp T.b__law_text .nil passL (pa_cons (pv 3) pa_nil)))
      (pss_cons (ps_if (pt_cut (PW.pt (pw_or (pt_cmpR op_ne (pe_call (ok_text_of (K := K) T) (hr.mono (by decide)) (by rfl) T.m_text_of T.F_text_of.kp T.b_text_of .nil passL (pa_cons (pv 3) pa_nil)) (pv 4) (nomark _)) (pw_or1 (pt_cmpR op_ne (pe_callB (call_reprC (ctE (kT (kO (kU (kSt (K := K)) (kI (K := K)))))) (gdeep hgd) hr.units) (by rfl) T.z_repr (by decide +kernel) (pa_cons (pe_call (ok_instruction_of (K := K) T) (hr.mono (by decide)) (by rfl) T.m_instruction_of T.F_instruction_of.kp T.b_instruction_of .nil passL (pa_cons (pv 4) pa_nil)) pa_nil)) (pe_callB (call_reprC (ctE (kT (kU (kSt (K := K)) (kI (K := K))))) (gdeep hgd) hr.units) (by rfl) T.z_repr (by decide +kernel) (pa_cons (pv 3) pa_nil)) (nomark _)))))) (pss_one (ps_ret pe_bl)) pss_nil)
      (pss_one (ps_for (passes_of rfl) rfl (pi_range1 (by rfl) T.z_range (pa_cons pe_int pa_nil)) (pg_name (i := 5) sc_law.nd rfl (Or.inl rfl))
      (pss_cons (ps_set (i := 4) sc_law.nd rfl (Or.inl rfl) (pe_call (ok__law_bent (K := K) T) (hr.mono (by decide)) (by rfl) T.m__law_bent T.F__law_bent.kp T.b__law_bent .nil passL (pa_cons (pv 1) (pa_cons (pe_op op_addS (pv 4) (pe_call (ok__law_pick (K := K) T) (hr.mono (by decide)) (by rfl) T.m__law_pick T.F__law_pick.kp T.b__law_pick .nil passL (pa_cons (pv 1) (pa_cons (pe_lst (pa_cons pe_str (pa_cons pe_str (pa_cons pe_str pa_nil)))) pa_nil)))) pa_nil))))
      (pss_one (ps_if (pt_cut (PW.pt (pw_or (pt_cmpR op_eq (pv 4) pe_str (nomark _)) (pw_or1 (pt_cmpR op_ne (pe_callB (call_reprO (ctE (kT (kO (kU (kSt (K := K)) (kI (K := K)))))) (gdeep hgd) hr.units) (by rfl) T.z_repr (by decide +kernel) (pa_cons (pe_call (ok__law_heard (K := K) T) (hr.mono (by decide)) (by rfl) T.m__law_heard T.F__law_heard.kp T.b__law_heard .nil passL (pa_cons (pv 4) pa_nil)) pa_nil)) (pe_callB (call_reprO (ctE (kT (kU (kSt (K := K)) (kI (K := K))))) (gdeep hgd) hr.units) (by rfl) T.z_repr (by decide +kernel) (pa_cons (pe_call (ok__law_read (K := K) T) (hr.mono (by decide)) (by rfl) T.m__law_read T.F__law_read.kp T.b__law_read .nil passL (pa_cons (pv 4) pa_nil)) pa_nil)) (nomark _)))))) (pss_one (ps_ret (pe_and (pe_cmpR op_eq (pv 4) pe_str (nomark _)) (pe_one (pe_cmpR op_isNR (pe_call (ok__law_heard (K := K) T) (hr.mono (by decide)) (by rfl) T.m__law_heard T.F__law_heard.kp T.b__law_heard .nil passL (pa_cons pe_str pa_nil)) pe_non (nomark _)))))) pss_nil)))))))))
      (pss_one (ps_ret (pe_and (pe_cmpR op_eq (pe_callN0 (ok_text_of (K := K) T) (hr.mono (by decide)) (by rfl) T.m_text_of T.F_text_of.kp T.kb_text_of_0_instruction passL (pk_cons (pe_tup (pa_cons pe_str pa_nil)) pk_nil)) pe_str (nomark _)) (pe_one (pe_cmpR (op_eqC (ctE (kT (kO (kU (kSt (K := K)) (kI (K := K)))))) hr.units) (pe_call (ok_instruction_of (K := K) T) (hr.mono (by decide)) (by rfl) T.m_instruction_of T.F_instruction_of.kp T.b_instruction_of .nil passL (pa_cons pe_str pa_nil)) (pe_tup (pa_cons pe_str (pa_cons pe_int (pa_cons pe_int (pa_cons (pe_un un_neg pe_int) pa_nil))))) (nomark _)))))))), ?_⟩
    try simp only [cxOf_K]
    refine w_in (σ := [some _, none, none, none, none, none]) rfl ?_
    refine Holds.go hH ?_
    unfold m_law at hm
    repeat (walk_at "gst")
    repeat (walk_at "fold1")
    refine' c_forR (M := Unit) (B := Option V × Option V × Option V × Option V) hm (fun m b => [none, none, some (b.1), some (b.2.1), some (b.2.2.1), some (b.2.2.2)]) (fun m b => []) (_, _, _, _) ?zh7 ?zs7 ?zq7 ?zd7
    case zh7 =>
      (try dsimp only); rfl
    case zs7 =>
      walk_at "subR"
    case zq7 =>
      intro hbk x m b nxt hm
      walk_at "norm"
      repeat (walk_at "gst")
      walk_at "if"
      · repeat (walk_at "go")
      · repeat (walk_at "gst")
        repeat (walk_at "fold1")
        refine' c_forR (M := Str) (B := Option V) hm (fun m b => [none, none, none, none, some (some (.str m)), some (b)]) (fun m b => []) _ ?zh6 ?zs6 ?zq6 ?zd6
        case zh6 =>
          (try dsimp only); rfl
        case zs6 =>
          walk_at "subR"
        case zq6 =>
          intro hbk x m b nxt hm
          walk_at "norm"
          repeat (walk_at "go")
        case zd6 =>
          intro m b hm
          walk_at "norm"
          repeat (walk_at "go")
    case zd7 =>
      intro m b hm
      walk_at "norm"
      repeat (walk_at "go")
end
theorem all_mk {l : PySem.W.OpenLaw} {w : World} {K : PySem.W.Frag} {h : Heap} {mg : Str → Option Value} {fa : Addr} (X : K.In h) (G : h.Ns mainGlobals mg) (hfa : mg "law" = some (.ref fa))
    {f_CoreError___init__ : Addr} {d_CoreError___init__ : FuncData} {f_is_integer : Addr} {d_is_integer : FuncData} {f_is_count : Addr} {d_is_count : FuncData} {f_is_instruction_value : Addr} {d_is_instruction_value : FuncData} {f_want_instruction : Addr} {d_want_instruction : FuncData} {f_listing_text : Addr} {d_listing_text : FuncData} {f_register_in : Addr} {d_register_in : FuncData} {f_integer_in : Addr} {d_integer_in : FuncData} {f_listing_instruction : Addr} {d_listing_instruction : FuncData} {f_text_of : Addr} {d_text_of : FuncData} {f_instruction_of : Addr} {d_instruction_of : FuncData} {f__law_pot : Addr} {d__law_pot : FuncData} {f__law_draw : Addr} {d__law_draw : FuncData} {f__law_pick : Addr} {d__law_pick : FuncData} {f__law_names : Addr} {d__law_names : FuncData} {f__law_form : Addr} {d__law_form : FuncData} {f__law_shape : Addr} {d__law_shape : FuncData} {f__law_drawn : Addr} {d__law_drawn : FuncData} {f__law_text : Addr} {d__law_text : FuncData} {f__law_number : Addr} {d__law_number : FuncData} {f__law_read : Addr} {d__law_read : FuncData} {f__law_heard : Addr} {d__law_heard : FuncData} {f__law_bent : Addr} {d__law_bent : FuncData} {f_law : Addr} {d_law : FuncData} {c_CoreError : Addr} {c_InvalidInstruction : Addr} {c_InvalidListing : Addr} {t_FORMS : Addr} {t_SHAPES : Addr} {t_MOST_REGISTER : Tok} {t_FIGURES : Tok} {t_MOST_FIGURES : Tok}
    (a_CoreError : PySem.W.nsIn K mainGlobals "CoreError" = some (some (.ref c_CoreError)))
    (xc_CoreError : ∃ nm q N bs sn sub ab col dd k0 k1 k2 k3 k5, K.lookup c_CoreError = some (excClassObj nm q c_CoreError N bs [.type "ValueError", .type "Exception", .type "BaseException", .type "object"] true sn sub ab col dd k0 k1 k2 k3 k5 "ValueError.__new__"))
    (xs_CoreError : PySem.W.findIn K (.ref c_CoreError) "__setattr__" = some (some (.builtin "object.__setattr__")))
    (xb_CoreError : PySem.W.subIn K (.ref c_CoreError) (.type "BaseException") = some true)
    (xy_CoreError : PySem.W.typeIn K (.ref c_CoreError) = some (.type "type"))
    (xk_CoreError : PySem.W.keepIn K (.ref c_CoreError) = true)
    (xi_CoreError : PySem.W.findIn K (.ref c_CoreError) "__init__" = some (some (.ref f_CoreError___init__)))
    (xn_CoreError_value : PySem.W.findIn K (.ref c_CoreError) "value" = some none)
    (a_InvalidInstruction : PySem.W.nsIn K mainGlobals "InvalidInstruction" = some (some (.ref c_InvalidInstruction)))
    (xc_InvalidInstruction : ∃ nm q N bs sn sub ab col dd k0 k1 k2 k3 k5, K.lookup c_InvalidInstruction = some (excClassObj nm q c_InvalidInstruction N bs [.ref c_CoreError, .type "ValueError", .type "Exception", .type "BaseException", .type "object"] true sn sub ab col dd k0 k1 k2 k3 k5 "ValueError.__new__"))
    (xs_InvalidInstruction : PySem.W.findIn K (.ref c_InvalidInstruction) "__setattr__" = some (some (.builtin "object.__setattr__")))
    (xb_InvalidInstruction : PySem.W.subIn K (.ref c_InvalidInstruction) (.type "BaseException") = some true)
    (xy_InvalidInstruction : PySem.W.typeIn K (.ref c_InvalidInstruction) = some (.type "type"))
    (xk_InvalidInstruction : PySem.W.keepIn K (.ref c_InvalidInstruction) = true)
    (xi_InvalidInstruction : PySem.W.findIn K (.ref c_InvalidInstruction) "__init__" = some (some (.ref f_CoreError___init__)))
    (xn_InvalidInstruction_value : PySem.W.findIn K (.ref c_InvalidInstruction) "value" = some none)
    (a_InvalidListing : PySem.W.nsIn K mainGlobals "InvalidListing" = some (some (.ref c_InvalidListing)))
    (xc_InvalidListing : ∃ nm q N bs sn sub ab col dd k0 k1 k2 k3 k5, K.lookup c_InvalidListing = some (excClassObj nm q c_InvalidListing N bs [.ref c_CoreError, .type "ValueError", .type "Exception", .type "BaseException", .type "object"] true sn sub ab col dd k0 k1 k2 k3 k5 "ValueError.__new__"))
    (xs_InvalidListing : PySem.W.findIn K (.ref c_InvalidListing) "__setattr__" = some (some (.builtin "object.__setattr__")))
    (xb_InvalidListing : PySem.W.subIn K (.ref c_InvalidListing) (.type "BaseException") = some true)
    (xy_InvalidListing : PySem.W.typeIn K (.ref c_InvalidListing) = some (.type "type"))
    (xk_InvalidListing : PySem.W.keepIn K (.ref c_InvalidListing) = true)
    (xi_InvalidListing : PySem.W.findIn K (.ref c_InvalidListing) "__init__" = some (some (.ref f_CoreError___init__)))
    (xn_InvalidListing_value : PySem.W.findIn K (.ref c_InvalidListing) "value" = some none)
    (xl_InvalidListing : PySem.W.isClsIn K c_InvalidListing = true)
    (xz_InvalidListing : PySem.W.subIn K (.ref c_InvalidListing) (.ref c_InvalidListing) = some true)
    (l_CoreError___init__ : ∃ oc od kV dc pm an cd ct sl, d_CoreError___init__ = PySem.W.fnOf "__init__" "CoreError.__init__" (defArgs s_CoreError___init__) (defBody s_CoreError___init__) (defScope s_CoreError___init__) .none kV dc pm an cd ct ∧ K.lookup f_CoreError___init__ = some ⟨oc, od, .func d_CoreError___init__, sl⟩ ∧ PySem.W.codeIn K cd "CoreError.__init__" = true)
    (kp_CoreError___init__ : PySem.W.keepIn K (.ref f_CoreError___init__) = true)
    (xt_CoreError___init__ : PySem.W.typeIn K (.ref f_CoreError___init__) = some (.type "function"))
    (a_is_integer : PySem.W.nsIn K mainGlobals "is_integer" = some (some (.ref f_is_integer)))
    (l_is_integer : ∃ oc od kV dc pm an cd ct sl, d_is_integer = PySem.W.fnOf "is_integer" "is_integer" (defArgs s_is_integer) (defBody s_is_integer) (defScope s_is_integer) .none kV dc pm an cd ct ∧ K.lookup f_is_integer = some ⟨oc, od, .func d_is_integer, sl⟩ ∧ PySem.W.codeIn K cd "is_integer" = true)
    (kp_is_integer : PySem.W.keepIn K (.ref f_is_integer) = true)
    (a_is_count : PySem.W.nsIn K mainGlobals "is_count" = some (some (.ref f_is_count)))
    (l_is_count : ∃ oc od kV dc pm an cd ct sl, d_is_count = PySem.W.fnOf "is_count" "is_count" (defArgs s_is_count) (defBody s_is_count) (defScope s_is_count) .none kV dc pm an cd ct ∧ K.lookup f_is_count = some ⟨oc, od, .func d_is_count, sl⟩ ∧ PySem.W.codeIn K cd "is_count" = true)
    (kp_is_count : PySem.W.keepIn K (.ref f_is_count) = true)
    (a_is_instruction_value : PySem.W.nsIn K mainGlobals "is_instruction_value" = some (some (.ref f_is_instruction_value)))
    (l_is_instruction_value : ∃ oc od kV dc pm an cd ct sl, d_is_instruction_value = PySem.W.fnOf "is_instruction_value" "is_instruction_value" (defArgs s_is_instruction_value) (defBody s_is_instruction_value) (defScope s_is_instruction_value) .none kV dc pm an cd ct ∧ K.lookup f_is_instruction_value = some ⟨oc, od, .func d_is_instruction_value, sl⟩ ∧ PySem.W.codeIn K cd "is_instruction_value" = true)
    (kp_is_instruction_value : PySem.W.keepIn K (.ref f_is_instruction_value) = true)
    (a_want_instruction : PySem.W.nsIn K mainGlobals "want_instruction" = some (some (.ref f_want_instruction)))
    (l_want_instruction : ∃ oc od kV dc pm an cd ct sl, d_want_instruction = PySem.W.fnOf "want_instruction" "want_instruction" (defArgs s_want_instruction) (defBody s_want_instruction) (defScope s_want_instruction) .none kV dc pm an cd ct ∧ K.lookup f_want_instruction = some ⟨oc, od, .func d_want_instruction, sl⟩ ∧ PySem.W.codeIn K cd "want_instruction" = true)
    (kp_want_instruction : PySem.W.keepIn K (.ref f_want_instruction) = true)
    (a_listing_text : PySem.W.nsIn K mainGlobals "listing_text" = some (some (.ref f_listing_text)))
    (l_listing_text : ∃ oc od kV dc pm an cd ct sl, d_listing_text = PySem.W.fnOf "listing_text" "listing_text" (defArgs s_listing_text) (defBody s_listing_text) (defScope s_listing_text) .none kV dc pm an cd ct ∧ K.lookup f_listing_text = some ⟨oc, od, .func d_listing_text, sl⟩ ∧ PySem.W.codeIn K cd "listing_text" = true)
    (kp_listing_text : PySem.W.keepIn K (.ref f_listing_text) = true)
    (a_register_in : PySem.W.nsIn K mainGlobals "register_in" = some (some (.ref f_register_in)))
    (l_register_in : ∃ oc od kV dc pm an cd ct sl, d_register_in = PySem.W.fnOf "register_in" "register_in" (defArgs s_register_in) (defBody s_register_in) (defScope s_register_in) .none kV dc pm an cd ct ∧ K.lookup f_register_in = some ⟨oc, od, .func d_register_in, sl⟩ ∧ PySem.W.codeIn K cd "register_in" = true)
    (kp_register_in : PySem.W.keepIn K (.ref f_register_in) = true)
    (a_integer_in : PySem.W.nsIn K mainGlobals "integer_in" = some (some (.ref f_integer_in)))
    (l_integer_in : ∃ oc od kV dc pm an cd ct sl, d_integer_in = PySem.W.fnOf "integer_in" "integer_in" (defArgs s_integer_in) (defBody s_integer_in) (defScope s_integer_in) .none kV dc pm an cd ct ∧ K.lookup f_integer_in = some ⟨oc, od, .func d_integer_in, sl⟩ ∧ PySem.W.codeIn K cd "integer_in" = true)
    (kp_integer_in : PySem.W.keepIn K (.ref f_integer_in) = true)
    (a_listing_instruction : PySem.W.nsIn K mainGlobals "listing_instruction" = some (some (.ref f_listing_instruction)))
    (l_listing_instruction : ∃ oc od kV dc pm an cd ct sl, d_listing_instruction = PySem.W.fnOf "listing_instruction" "listing_instruction" (defArgs s_listing_instruction) (defBody s_listing_instruction) (defScope s_listing_instruction) .none kV dc pm an cd ct ∧ K.lookup f_listing_instruction = some ⟨oc, od, .func d_listing_instruction, sl⟩ ∧ PySem.W.codeIn K cd "listing_instruction" = true)
    (kp_listing_instruction : PySem.W.keepIn K (.ref f_listing_instruction) = true)
    (a_text_of : PySem.W.nsIn K mainGlobals "text_of" = some (some (.ref f_text_of)))
    (l_text_of : ∃ oc od kV dc pm an cd ct sl, d_text_of = PySem.W.fnOf "text_of" "text_of" (defArgs s_text_of) (defBody s_text_of) (defScope s_text_of) .none kV dc pm an cd ct ∧ K.lookup f_text_of = some ⟨oc, od, .func d_text_of, sl⟩ ∧ PySem.W.codeIn K cd "text_of" = true)
    (kp_text_of : PySem.W.keepIn K (.ref f_text_of) = true)
    (a_instruction_of : PySem.W.nsIn K mainGlobals "instruction_of" = some (some (.ref f_instruction_of)))
    (l_instruction_of : ∃ oc od kV dc pm an cd ct sl, d_instruction_of = PySem.W.fnOf "instruction_of" "instruction_of" (defArgs s_instruction_of) (defBody s_instruction_of) (defScope s_instruction_of) .none kV dc pm an cd ct ∧ K.lookup f_instruction_of = some ⟨oc, od, .func d_instruction_of, sl⟩ ∧ PySem.W.codeIn K cd "instruction_of" = true)
    (kp_instruction_of : PySem.W.keepIn K (.ref f_instruction_of) = true)
    (a__law_pot : PySem.W.nsIn K mainGlobals "_law_pot" = some (some (.ref f__law_pot)))
    (l__law_pot : ∃ oc od kV dc pm an cd ct sl, d__law_pot = PySem.W.fnOf "_law_pot" "_law_pot" (defArgs s__law_pot) (defBody s__law_pot) (defScope s__law_pot) .none kV dc pm an cd ct ∧ K.lookup f__law_pot = some ⟨oc, od, .func d__law_pot, sl⟩ ∧ PySem.W.codeIn K cd "_law_pot" = true)
    (kp__law_pot : PySem.W.keepIn K (.ref f__law_pot) = true)
    (a__law_draw : PySem.W.nsIn K mainGlobals "_law_draw" = some (some (.ref f__law_draw)))
    (l__law_draw : ∃ oc od kV dc pm an cd ct sl, d__law_draw = PySem.W.fnOf "_law_draw" "_law_draw" (defArgs s__law_draw) (defBody s__law_draw) (defScope s__law_draw) .none kV dc pm an cd ct ∧ K.lookup f__law_draw = some ⟨oc, od, .func d__law_draw, sl⟩ ∧ PySem.W.codeIn K cd "_law_draw" = true)
    (kp__law_draw : PySem.W.keepIn K (.ref f__law_draw) = true)
    (a__law_pick : PySem.W.nsIn K mainGlobals "_law_pick" = some (some (.ref f__law_pick)))
    (l__law_pick : ∃ oc od kV dc pm an cd ct sl, d__law_pick = PySem.W.fnOf "_law_pick" "_law_pick" (defArgs s__law_pick) (defBody s__law_pick) (defScope s__law_pick) .none kV dc pm an cd ct ∧ K.lookup f__law_pick = some ⟨oc, od, .func d__law_pick, sl⟩ ∧ PySem.W.codeIn K cd "_law_pick" = true)
    (kp__law_pick : PySem.W.keepIn K (.ref f__law_pick) = true)
    (a__law_names : PySem.W.nsIn K mainGlobals "_law_names" = some (some (.ref f__law_names)))
    (l__law_names : ∃ oc od kV dc pm an cd ct sl, d__law_names = PySem.W.fnOf "_law_names" "_law_names" (defArgs s__law_names) (defBody s__law_names) (defScope s__law_names) .none kV dc pm an cd ct ∧ K.lookup f__law_names = some ⟨oc, od, .func d__law_names, sl⟩ ∧ PySem.W.codeIn K cd "_law_names" = true)
    (kp__law_names : PySem.W.keepIn K (.ref f__law_names) = true)
    (a__law_form : PySem.W.nsIn K mainGlobals "_law_form" = some (some (.ref f__law_form)))
    (l__law_form : ∃ oc od kV dc pm an cd ct sl, d__law_form = PySem.W.fnOf "_law_form" "_law_form" (defArgs s__law_form) (defBody s__law_form) (defScope s__law_form) .none kV dc pm an cd ct ∧ K.lookup f__law_form = some ⟨oc, od, .func d__law_form, sl⟩ ∧ PySem.W.codeIn K cd "_law_form" = true)
    (kp__law_form : PySem.W.keepIn K (.ref f__law_form) = true)
    (a__law_shape : PySem.W.nsIn K mainGlobals "_law_shape" = some (some (.ref f__law_shape)))
    (l__law_shape : ∃ oc od kV dc pm an cd ct sl, d__law_shape = PySem.W.fnOf "_law_shape" "_law_shape" (defArgs s__law_shape) (defBody s__law_shape) (defScope s__law_shape) .none kV dc pm an cd ct ∧ K.lookup f__law_shape = some ⟨oc, od, .func d__law_shape, sl⟩ ∧ PySem.W.codeIn K cd "_law_shape" = true)
    (kp__law_shape : PySem.W.keepIn K (.ref f__law_shape) = true)
    (a__law_drawn : PySem.W.nsIn K mainGlobals "_law_drawn" = some (some (.ref f__law_drawn)))
    (l__law_drawn : ∃ oc od kV dc pm an cd ct sl, d__law_drawn = PySem.W.fnOf "_law_drawn" "_law_drawn" (defArgs s__law_drawn) (defBody s__law_drawn) (defScope s__law_drawn) .none kV dc pm an cd ct ∧ K.lookup f__law_drawn = some ⟨oc, od, .func d__law_drawn, sl⟩ ∧ PySem.W.codeIn K cd "_law_drawn" = true)
    (kp__law_drawn : PySem.W.keepIn K (.ref f__law_drawn) = true)
    (a__law_text : PySem.W.nsIn K mainGlobals "_law_text" = some (some (.ref f__law_text)))
    (l__law_text : ∃ oc od kV dc pm an cd ct sl, d__law_text = PySem.W.fnOf "_law_text" "_law_text" (defArgs s__law_text) (defBody s__law_text) (defScope s__law_text) .none kV dc pm an cd ct ∧ K.lookup f__law_text = some ⟨oc, od, .func d__law_text, sl⟩ ∧ PySem.W.codeIn K cd "_law_text" = true)
    (kp__law_text : PySem.W.keepIn K (.ref f__law_text) = true)
    (a__law_number : PySem.W.nsIn K mainGlobals "_law_number" = some (some (.ref f__law_number)))
    (l__law_number : ∃ oc od kV dc pm an cd ct sl, d__law_number = PySem.W.fnOf "_law_number" "_law_number" (defArgs s__law_number) (defBody s__law_number) (defScope s__law_number) .none kV dc pm an cd ct ∧ K.lookup f__law_number = some ⟨oc, od, .func d__law_number, sl⟩ ∧ PySem.W.codeIn K cd "_law_number" = true)
    (kp__law_number : PySem.W.keepIn K (.ref f__law_number) = true)
    (a__law_read : PySem.W.nsIn K mainGlobals "_law_read" = some (some (.ref f__law_read)))
    (l__law_read : ∃ oc od kV dc pm an cd ct sl, d__law_read = PySem.W.fnOf "_law_read" "_law_read" (defArgs s__law_read) (defBody s__law_read) (defScope s__law_read) .none kV dc pm an cd ct ∧ K.lookup f__law_read = some ⟨oc, od, .func d__law_read, sl⟩ ∧ PySem.W.codeIn K cd "_law_read" = true)
    (kp__law_read : PySem.W.keepIn K (.ref f__law_read) = true)
    (a__law_heard : PySem.W.nsIn K mainGlobals "_law_heard" = some (some (.ref f__law_heard)))
    (l__law_heard : ∃ oc od kV dc pm an cd ct sl, d__law_heard = PySem.W.fnOf "_law_heard" "_law_heard" (defArgs s__law_heard) (defBody s__law_heard) (defScope s__law_heard) .none kV dc pm an cd ct ∧ K.lookup f__law_heard = some ⟨oc, od, .func d__law_heard, sl⟩ ∧ PySem.W.codeIn K cd "_law_heard" = true)
    (kp__law_heard : PySem.W.keepIn K (.ref f__law_heard) = true)
    (a__law_bent : PySem.W.nsIn K mainGlobals "_law_bent" = some (some (.ref f__law_bent)))
    (l__law_bent : ∃ oc od kV dc pm an cd ct sl, d__law_bent = PySem.W.fnOf "_law_bent" "_law_bent" (defArgs s__law_bent) (defBody s__law_bent) (defScope s__law_bent) .none kV dc pm an cd ct ∧ K.lookup f__law_bent = some ⟨oc, od, .func d__law_bent, sl⟩ ∧ PySem.W.codeIn K cd "_law_bent" = true)
    (kp__law_bent : PySem.W.keepIn K (.ref f__law_bent) = true)
    (a_law : PySem.W.nsIn K mainGlobals "law" = some (some (.ref f_law)))
    (l_law : ∃ oc od kV dc pm an cd ct sl, d_law = PySem.W.fnOf "law" "law" (defArgs s_law) (defBody s_law) (defScope s_law) .none kV dc pm an cd ct ∧ K.lookup f_law = some ⟨oc, od, .func d_law, sl⟩ ∧ PySem.W.codeIn K cd "law" = true)
    (kp_law : PySem.W.keepIn K (.ref f_law) = true)
    (z_abs : PySem.W.nsIn K mainGlobals "abs" = some none)
    (z_all : PySem.W.nsIn K mainGlobals "all" = some none)
    (z_bool : PySem.W.nsIn K mainGlobals "bool" = some none)
    (z_divmod : PySem.W.nsIn K mainGlobals "divmod" = some none)
    (z_int : PySem.W.nsIn K mainGlobals "int" = some none)
    (z_isinstance : PySem.W.nsIn K mainGlobals "isinstance" = some none)
    (z_len : PySem.W.nsIn K mainGlobals "len" = some none)
    (z_max : PySem.W.nsIn K mainGlobals "max" = some none)
    (z_range : PySem.W.nsIn K mainGlobals "range" = some none)
    (z_repr : PySem.W.nsIn K mainGlobals "repr" = some none)
    (z_str : PySem.W.nsIn K mainGlobals "str" = some none)
    (z_tuple : PySem.W.nsIn K mainGlobals "tuple" = some none)
    (v_FORMS : PySem.W.nsIn K mainGlobals "FORMS" = some (some (.ref t_FORMS)))
    (kl_FORMS : ∃ es n, KDict K w t_FORMS es n ∧ PairsT es.toList [("add", .str "three"), ("sub", .str "three"), ("mul", .str "three"), ("div", .str "three"), ("and", .str "three"), ("or", .str "three"), ("xor", .str "three"), ("shl", .str "three"), ("shr", .str "three"), ("low", .str "three"), ("eq", .str "three"), ("addi", .str "near"), ("ld", .str "near"), ("st", .str "near"), ("jr", .str "near"), ("lim", .str "byte"), ("lhi", .str "byte"), ("bz", .str "far"), ("bnz", .str "far"), ("jal", .str "far"), ("sys", .str "call"), ("rdc", .str "control"), ("wrc", .str "control"), ("ret", .str "bare"), ("halt", .str "bare"), ("nop", .str "bare")])
    (v_SHAPES : PySem.W.nsIn K mainGlobals "SHAPES" = some (some (.ref t_SHAPES)))
    (kl_SHAPES : ∃ es n, KDict K w t_SHAPES es n ∧ PairsQ K (fun v : Int × Int × Int × Int => [V.int v.1, V.int v.2.1, V.int v.2.2.1, V.int v.2.2.2]) es.toList [("three", ((3 : Int), (0 : Int), (0 : Int), (0 : Int))), ("near", ((2 : Int), (5 : Int), (-16 : Int), (15 : Int))), ("byte", ((1 : Int), (8 : Int), (0 : Int), (255 : Int))), ("far", ((1 : Int), (8 : Int), (-128 : Int), (127 : Int))), ("call", ((0 : Int), (8 : Int), (0 : Int), (255 : Int))), ("control", ((1 : Int), (8 : Int), (0 : Int), (7 : Int))), ("bare", ((0 : Int), (0 : Int), (0 : Int), (0 : Int)))])
    (v_MOST_REGISTER : PySem.W.nsIn K mainGlobals "MOST_REGISTER" = some (some (.int 7 t_MOST_REGISTER)))
    (v_FIGURES : PySem.W.nsIn K mainGlobals "FIGURES" = some (some (.str "0123456789" t_FIGURES)))
    (v_MOST_FIGURES : PySem.W.nsIn K mainGlobals "MOST_FIGURES" = some (some (.int 3 t_MOST_FIGURES)))
    : ∃ fd : FuncData, (∀ (s : Shared) (v : Value), BindsTo s fd ⟨[v], []⟩ [("_law_script", v)]) ∧ ∀ base : Heap, K.In base → base.Ns mainGlobals mg → FnG l.prog w K mg base (L2.CX l.prog w) 7 fa fd ["_law_script"] (sp_law K) := by
  have T : Txt w K mg ⟨f_CoreError___init__, d_CoreError___init__, f_is_integer, d_is_integer, f_is_count, d_is_count, f_is_instruction_value, d_is_instruction_value, f_want_instruction, d_want_instruction, f_listing_text, d_listing_text, f_register_in, d_register_in, f_integer_in, d_integer_in, f_listing_instruction, d_listing_instruction, f_text_of, d_text_of, f_instruction_of, d_instruction_of, f__law_pot, d__law_pot, f__law_draw, d__law_draw, f__law_pick, d__law_pick, f__law_names, d__law_names, f__law_form, d__law_form, f__law_shape, d__law_shape, f__law_drawn, d__law_drawn, f__law_text, d__law_text, f__law_number, d__law_number, f__law_read, d__law_read, f__law_heard, d__law_heard, f__law_bent, d__law_bent, f_law, d_law, c_CoreError, c_InvalidInstruction, c_InvalidListing, t_FORMS, t_SHAPES, t_MOST_REGISTER, t_FIGURES, t_MOST_FIGURES⟩ := {
    g_CoreError := PySem.W.mg_of X G a_CoreError,
    x_CoreError := (by obtain ⟨nm, q, N, bs, sn, sub, ab, col, dd, k0, k1, k2, k3, k5, e⟩ := xc_CoreError; exact ⟨⟨nm, q, N, bs, _, sn, sub, ab, col, dd, k0, k1, k2, k3, k5, e, by simp [PySem.HandSPX.refsVE]⟩, xs_CoreError, xb_CoreError, xy_CoreError, xk_CoreError⟩),
    xi_CoreError := xi_CoreError,
    xn_CoreError_value := xn_CoreError_value,
    g_InvalidInstruction := PySem.W.mg_of X G a_InvalidInstruction,
    x_InvalidInstruction := (by obtain ⟨nm, q, N, bs, sn, sub, ab, col, dd, k0, k1, k2, k3, k5, e⟩ := xc_InvalidInstruction; exact ⟨⟨nm, q, N, bs, _, sn, sub, ab, col, dd, k0, k1, k2, k3, k5, e, by simp [PySem.HandSPX.refsVE]⟩, xs_InvalidInstruction, xb_InvalidInstruction, xy_InvalidInstruction, xk_InvalidInstruction⟩),
    xi_InvalidInstruction := xi_InvalidInstruction,
    xn_InvalidInstruction_value := xn_InvalidInstruction_value,
    g_InvalidListing := PySem.W.mg_of X G a_InvalidListing,
    x_InvalidListing := (by obtain ⟨nm, q, N, bs, sn, sub, ab, col, dd, k0, k1, k2, k3, k5, e⟩ := xc_InvalidListing; exact ⟨⟨nm, q, N, bs, _, sn, sub, ab, col, dd, k0, k1, k2, k3, k5, e, by simp [PySem.HandSPX.refsVE]⟩, xs_InvalidListing, xb_InvalidListing, xy_InvalidListing, xk_InvalidListing⟩),
    xi_InvalidListing := xi_InvalidListing,
    xn_InvalidListing_value := xn_InvalidListing_value,
    xe_InvalidListing := exm_self xb_InvalidListing xl_InvalidListing xy_InvalidListing xz_InvalidListing,
    F_CoreError___init__ := ⟨l_CoreError___init__, kp_CoreError___init__⟩,
    b_CoreError___init__ := (Fun.binds (st := s_CoreError___init__) ⟨l_CoreError___init__, kp_CoreError___init__⟩ fun _ _ _ _ _ _ us hl => match us, hl with | [_, _], _ => rfl),
    xt_CoreError___init__ := xt_CoreError___init__,
    m_is_integer := PySem.W.mg_of X G a_is_integer,
    F_is_integer := ⟨l_is_integer, kp_is_integer⟩,
    b_is_integer := (Fun.binds (st := s_is_integer) ⟨l_is_integer, kp_is_integer⟩ fun _ _ _ _ _ _ us hl => match us, hl with | [_], _ => rfl),
    m_is_count := PySem.W.mg_of X G a_is_count,
    F_is_count := ⟨l_is_count, kp_is_count⟩,
    b_is_count := (Fun.binds (st := s_is_count) ⟨l_is_count, kp_is_count⟩ fun _ _ _ _ _ _ us hl => match us, hl with | [_], _ => rfl),
    m_is_instruction_value := PySem.W.mg_of X G a_is_instruction_value,
    F_is_instruction_value := ⟨l_is_instruction_value, kp_is_instruction_value⟩,
    b_is_instruction_value := (Fun.binds (st := s_is_instruction_value) ⟨l_is_instruction_value, kp_is_instruction_value⟩ fun _ _ _ _ _ _ us hl => match us, hl with | [_], _ => rfl),
    m_want_instruction := PySem.W.mg_of X G a_want_instruction,
    F_want_instruction := ⟨l_want_instruction, kp_want_instruction⟩,
    b_want_instruction := (Fun.binds (st := s_want_instruction) ⟨l_want_instruction, kp_want_instruction⟩ fun _ _ _ _ _ _ us hl => match us, hl with | [_], _ => rfl),
    m_listing_text := PySem.W.mg_of X G a_listing_text,
    F_listing_text := ⟨l_listing_text, kp_listing_text⟩,
    b_listing_text := (Fun.binds (st := s_listing_text) ⟨l_listing_text, kp_listing_text⟩ fun _ _ _ _ _ _ us hl => match us, hl with | [_], _ => rfl),
    m_register_in := PySem.W.mg_of X G a_register_in,
    F_register_in := ⟨l_register_in, kp_register_in⟩,
    b_register_in := (Fun.binds (st := s_register_in) ⟨l_register_in, kp_register_in⟩ fun _ _ _ _ _ _ us hl => match us, hl with | [_], _ => rfl),
    m_integer_in := PySem.W.mg_of X G a_integer_in,
    F_integer_in := ⟨l_integer_in, kp_integer_in⟩,
    b_integer_in := (Fun.binds (st := s_integer_in) ⟨l_integer_in, kp_integer_in⟩ fun _ _ _ _ _ _ us hl => match us, hl with | [_], _ => rfl),
    m_listing_instruction := PySem.W.mg_of X G a_listing_instruction,
    F_listing_instruction := ⟨l_listing_instruction, kp_listing_instruction⟩,
    b_listing_instruction := (Fun.binds (st := s_listing_instruction) ⟨l_listing_instruction, kp_listing_instruction⟩ fun _ _ _ _ _ _ us hl => match us, hl with | [_], _ => rfl),
    m_text_of := PySem.W.mg_of X G a_text_of,
    F_text_of := ⟨l_text_of, kp_text_of⟩,
    b_text_of := (Fun.binds (st := s_text_of) ⟨l_text_of, kp_text_of⟩ fun _ _ _ _ _ _ us hl => match us, hl with | [_], _ => rfl),
    m_instruction_of := PySem.W.mg_of X G a_instruction_of,
    F_instruction_of := ⟨l_instruction_of, kp_instruction_of⟩,
    b_instruction_of := (Fun.binds (st := s_instruction_of) ⟨l_instruction_of, kp_instruction_of⟩ fun _ _ _ _ _ _ us hl => match us, hl with | [_], _ => rfl),
    m__law_pot := PySem.W.mg_of X G a__law_pot,
    F__law_pot := ⟨l__law_pot, kp__law_pot⟩,
    b__law_pot := (Fun.binds (st := s__law_pot) ⟨l__law_pot, kp__law_pot⟩ fun _ _ _ _ _ _ us hl => match us, hl with | [_, _], _ => rfl),
    m__law_draw := PySem.W.mg_of X G a__law_draw,
    F__law_draw := ⟨l__law_draw, kp__law_draw⟩,
    b__law_draw := (Fun.binds (st := s__law_draw) ⟨l__law_draw, kp__law_draw⟩ fun _ _ _ _ _ _ us hl => match us, hl with | [_, _], _ => rfl),
    m__law_pick := PySem.W.mg_of X G a__law_pick,
    F__law_pick := ⟨l__law_pick, kp__law_pick⟩,
    b__law_pick := (Fun.binds (st := s__law_pick) ⟨l__law_pick, kp__law_pick⟩ fun _ _ _ _ _ _ us hl => match us, hl with | [_, _], _ => rfl),
    m__law_names := PySem.W.mg_of X G a__law_names,
    F__law_names := ⟨l__law_names, kp__law_names⟩,
    b__law_names := (Fun.binds (st := s__law_names) ⟨l__law_names, kp__law_names⟩ fun _ _ _ _ _ _ us hl => match us, hl with | [], _ => rfl),
    m__law_form := PySem.W.mg_of X G a__law_form,
    F__law_form := ⟨l__law_form, kp__law_form⟩,
    b__law_form := (Fun.binds (st := s__law_form) ⟨l__law_form, kp__law_form⟩ fun _ _ _ _ _ _ us hl => match us, hl with | [_], _ => rfl),
    m__law_shape := PySem.W.mg_of X G a__law_shape,
    F__law_shape := ⟨l__law_shape, kp__law_shape⟩,
    b__law_shape := (Fun.binds (st := s__law_shape) ⟨l__law_shape, kp__law_shape⟩ fun _ _ _ _ _ _ us hl => match us, hl with | [_], _ => rfl),
    m__law_drawn := PySem.W.mg_of X G a__law_drawn,
    F__law_drawn := ⟨l__law_drawn, kp__law_drawn⟩,
    b__law_drawn := (Fun.binds (st := s__law_drawn) ⟨l__law_drawn, kp__law_drawn⟩ fun _ _ _ _ _ _ us hl => match us, hl with | [_], _ => rfl),
    m__law_text := PySem.W.mg_of X G a__law_text,
    F__law_text := ⟨l__law_text, kp__law_text⟩,
    b__law_text := (Fun.binds (st := s__law_text) ⟨l__law_text, kp__law_text⟩ fun _ _ _ _ _ _ us hl => match us, hl with | [_], _ => rfl),
    m__law_number := PySem.W.mg_of X G a__law_number,
    F__law_number := ⟨l__law_number, kp__law_number⟩,
    b__law_number := (Fun.binds (st := s__law_number) ⟨l__law_number, kp__law_number⟩ fun _ _ _ _ _ _ us hl => match us, hl with | [_], _ => rfl),
    m__law_read := PySem.W.mg_of X G a__law_read,
    F__law_read := ⟨l__law_read, kp__law_read⟩,
    b__law_read := (Fun.binds (st := s__law_read) ⟨l__law_read, kp__law_read⟩ fun _ _ _ _ _ _ us hl => match us, hl with | [_], _ => rfl),
    m__law_heard := PySem.W.mg_of X G a__law_heard,
    F__law_heard := ⟨l__law_heard, kp__law_heard⟩,
    b__law_heard := (Fun.binds (st := s__law_heard) ⟨l__law_heard, kp__law_heard⟩ fun _ _ _ _ _ _ us hl => match us, hl with | [_], _ => rfl),
    m__law_bent := PySem.W.mg_of X G a__law_bent,
    F__law_bent := ⟨l__law_bent, kp__law_bent⟩,
    b__law_bent := (Fun.binds (st := s__law_bent) ⟨l__law_bent, kp__law_bent⟩ fun _ _ _ _ _ _ us hl => match us, hl with | [_, _], _ => rfl),
    m_law := PySem.W.mg_of X G a_law,
    F_law := ⟨l_law, kp_law⟩,
    b_law := (Fun.binds (st := s_law) ⟨l_law, kp_law⟩ fun _ _ _ _ _ _ us hl => match us, hl with | [_], _ => rfl),
    kb_instruction_of_0_text := (kbn_of (st := s_instruction_of) ⟨l_instruction_of, kp_instruction_of⟩ (fun _ _ _ _ _ _ us ws h1 h2 => match us, h1, ws, h2 with | [], _, [_], _ => rfl) (fun r1 r2 => .cons (vals_getD r2 0) (.nil))),
    kb_text_of_0_instruction := (kbn_of (st := s_text_of) ⟨l_text_of, kp_text_of⟩ (fun _ _ _ _ _ _ us ws h1 h2 => match us, h1, ws, h2 with | [], _, [_], _ => rfl) (fun r1 r2 => .cons (vals_getD r2 0) (.nil))),
    z_abs := PySem.W.mg_none_of X G z_abs,
    z_all := PySem.W.mg_none_of X G z_all,
    z_bool := PySem.W.mg_none_of X G z_bool,
    z_divmod := PySem.W.mg_none_of X G z_divmod,
    z_int := PySem.W.mg_none_of X G z_int,
    z_isinstance := PySem.W.mg_none_of X G z_isinstance,
    z_len := PySem.W.mg_none_of X G z_len,
    z_max := PySem.W.mg_none_of X G z_max,
    z_range := PySem.W.mg_none_of X G z_range,
    z_repr := PySem.W.mg_none_of X G z_repr,
    z_str := PySem.W.mg_none_of X G z_str,
    z_tuple := PySem.W.mg_none_of X G z_tuple,
    v_FORMS := PySem.W.mg_of X G v_FORMS,
    kt_FORMS := (ktab_of kl_FORMS (by decide +kernel) (by decide +kernel)),
    kd_FORMS := (kdc_tab (ktab_of kl_FORMS (by decide +kernel) (by decide +kernel))),
    v_SHAPES := PySem.W.mg_of X G v_SHAPES,
    kq_SHAPES := (ktabQ_of kl_SHAPES (by decide +kernel) (by decide +kernel)),
    v_MOST_REGISTER := PySem.W.mg_of X G v_MOST_REGISTER,
    v_FIGURES := PySem.W.mg_of X G v_FIGURES,
    v_MOST_FIGURES := PySem.W.mg_of X G v_MOST_FIGURES }
  have e := hfa.symm.trans T.m_law
  cases e
  refine ⟨d_law, fun s v => ?_, fun base _ _ => ok_law T⟩
  obtain ⟨oc, od, kV, dc, pm, an, cd, ct, sl, e, _, _⟩ := l_law
  rw [e]
  exact .of_eq rfl
theorem walk {l : PySem.W.OpenLaw} {q : Program} {loose : List Str} {XP : (Str → Option Value) → Heap → Prop} {YP : World → Heap → Prop} {d : DefRec} {K : Params → PySem.W.Frag} (hn : l.most = some 63) (hdf : d.params.defaults = [])
    (hY : ∀ (w : World) (h : Heap), YP w h → (K w.params).In h)
    (F : ∀ (w : World) (mg : Str → Option Value) (fa : Addr) (h : Heap), (K w.params).In h → h.Ns mainGlobals mg → mg d.name = some (.ref fa) →
      ∃ fd : FuncData, (∀ (s : Shared) (u : Value), BindsTo s fd ⟨[u], []⟩ [("_law_script", u)]) ∧ ∀ base : Heap, (K w.params).In base → base.Ns mainGlobals mg → FnG l.prog w (K w.params) mg base (L2.CX l.prog w) 7 fa fd ["_law_script"] (sp_law (K w.params))) :
    PySem.W.WalkO q loose XP YP l.row.toRowW d [] (fun f vs => PySem.call f vs) :=
  walk_ofG (n := 63) (k := 7) (x := "_law_script") (CX := fun w => L2.CX l.prog w) (sp := fun w => sp_law (K w.params)) hn (by decide) hdf ⟨rfl, by decide, by decide⟩ hY F (fun _ _ a ns hl _ hS => ⟨a, ns, rfl, hS, hl, fun _ => rfl⟩) fun w H s e s' z => (by
    obtain ⟨_, _, _, _, _, _, _, _, _, _, _, _, z⟩ := z
    exact z)
end Toy
open PySem PySem.W PyProof.Rows
set_option maxRecDepth 100000 in
set_option maxHeartbeats 0 in
theorem PySem.Challenge.cw_orderlycore_k18_whole_listing_holds : PySem.Challenge.rw_orderlycore_k18_whole_listing.Holds := by
  w_on; o_law; k_head; (case hw => w_witness2)
  k_fill
  refine Toy.walk (l := PySem.Challenge.rw_orderlycore_k18_whole_listing) rfl rfl (fun w h Y => PySem.W.kIn_of Y) ?F
  case F =>
    intro w mg fa h KX G hmg
    refine' Toy.all_mk KX G hmg ?a_CoreError ?xc_CoreError ?xs_CoreError ?xb_CoreError ?xy_CoreError ?xk_CoreError ?xi_CoreError ?xn_CoreError_value ?a_InvalidInstruction ?xc_InvalidInstruction ?xs_InvalidInstruction ?xb_InvalidInstruction ?xy_InvalidInstruction ?xk_InvalidInstruction ?xi_InvalidInstruction ?xn_InvalidInstruction_value ?a_InvalidListing ?xc_InvalidListing ?xs_InvalidListing ?xb_InvalidListing ?xy_InvalidListing ?xk_InvalidListing ?xi_InvalidListing ?xn_InvalidListing_value ?xl_InvalidListing ?xz_InvalidListing ?l_CoreError___init__ ?kp_CoreError___init__ ?xt_CoreError___init__ ?a_is_integer ?l_is_integer ?kp_is_integer ?a_is_count ?l_is_count ?kp_is_count ?a_is_instruction_value ?l_is_instruction_value ?kp_is_instruction_value ?a_want_instruction ?l_want_instruction ?kp_want_instruction ?a_listing_text ?l_listing_text ?kp_listing_text ?a_register_in ?l_register_in ?kp_register_in ?a_integer_in ?l_integer_in ?kp_integer_in ?a_listing_instruction ?l_listing_instruction ?kp_listing_instruction ?a_text_of ?l_text_of ?kp_text_of ?a_instruction_of ?l_instruction_of ?kp_instruction_of ?a__law_pot ?l__law_pot ?kp__law_pot ?a__law_draw ?l__law_draw ?kp__law_draw ?a__law_pick ?l__law_pick ?kp__law_pick ?a__law_names ?l__law_names ?kp__law_names ?a__law_form ?l__law_form ?kp__law_form ?a__law_shape ?l__law_shape ?kp__law_shape ?a__law_drawn ?l__law_drawn ?kp__law_drawn ?a__law_text ?l__law_text ?kp__law_text ?a__law_number ?l__law_number ?kp__law_number ?a__law_read ?l__law_read ?kp__law_read ?a__law_heard ?l__law_heard ?kp__law_heard ?a__law_bent ?l__law_bent ?kp__law_bent ?a_law ?l_law ?kp_law ?z_abs ?z_all ?z_bool ?z_divmod ?z_int ?z_isinstance ?z_len ?z_max ?z_range ?z_repr ?z_str ?z_tuple ?v_FORMS ?kl_FORMS ?v_SHAPES ?kl_SHAPES ?v_MOST_REGISTER ?v_FIGURES ?v_MOST_FIGURES
    (case a_CoreError => k_is)
    (case xs_CoreError => k_is)
    (case xb_CoreError => k_is)
    (case xy_CoreError => k_is)
    (case xk_CoreError => k_is)
    (case xi_CoreError => k_is)
    (case xn_CoreError_value => k_is)
    (case a_InvalidInstruction => k_is)
    (case xs_InvalidInstruction => k_is)
    (case xb_InvalidInstruction => k_is)
    (case xy_InvalidInstruction => k_is)
    (case xk_InvalidInstruction => k_is)
    (case xi_InvalidInstruction => k_is)
    (case xn_InvalidInstruction_value => k_is)
    (case a_InvalidListing => k_is)
    (case xs_InvalidListing => k_is)
    (case xb_InvalidListing => k_is)
    (case xy_InvalidListing => k_is)
    (case xk_InvalidListing => k_is)
    (case xi_InvalidListing => k_is)
    (case xn_InvalidListing_value => k_is)
    (case xl_InvalidListing => k_is)
    (case xz_InvalidListing => first | rfl | k_is)
    (case a_is_integer => k_is)
    (case a_is_count => k_is)
    (case a_is_instruction_value => k_is)
    (case a_want_instruction => k_is)
    (case a_listing_text => k_is)
    (case a_register_in => k_is)
    (case a_integer_in => k_is)
    (case a_listing_instruction => k_is)
    (case a_text_of => k_is)
    (case a_instruction_of => k_is)
    (case a__law_pot => k_is)
    (case a__law_draw => k_is)
    (case a__law_pick => k_is)
    (case a__law_names => k_is)
    (case a__law_form => k_is)
    (case a__law_shape => k_is)
    (case a__law_drawn => k_is)
    (case a__law_text => k_is)
    (case a__law_number => k_is)
    (case a__law_read => k_is)
    (case a__law_heard => k_is)
    (case a__law_bent => k_is)
    (case a_law => k_is)
    (case z_abs => k_is)
    (case z_all => k_is)
    (case z_bool => k_is)
    (case z_divmod => k_is)
    (case z_int => k_is)
    (case z_isinstance => k_is)
    (case z_len => k_is)
    (case z_max => k_is)
    (case z_range => k_is)
    (case z_repr => k_is)
    (case z_str => k_is)
    (case z_tuple => k_is)
    (case v_FORMS => k_is)
    (case kl_FORMS => exact ⟨_, _, ⟨by k_is, by exact ⟨⟨_, _, rfl, rfl⟩, ⟨⟨_, _, rfl, rfl⟩, ⟨⟨_, _, rfl, rfl⟩, ⟨⟨_, _, rfl, rfl⟩, ⟨⟨_, _, rfl, rfl⟩, ⟨⟨_, _, rfl, rfl⟩, ⟨⟨_, _, rfl, rfl⟩, ⟨⟨_, _, rfl, rfl⟩, ⟨⟨_, _, rfl, rfl⟩, ⟨⟨_, _, rfl, rfl⟩, ⟨⟨_, _, rfl, rfl⟩, ⟨⟨_, _, rfl, rfl⟩, ⟨⟨_, _, rfl, rfl⟩, ⟨⟨_, _, rfl, rfl⟩, ⟨⟨_, _, rfl, rfl⟩, ⟨⟨_, _, rfl, rfl⟩, ⟨⟨_, _, rfl, rfl⟩, ⟨⟨_, _, rfl, rfl⟩, ⟨⟨_, _, rfl, rfl⟩, ⟨⟨_, _, rfl, rfl⟩, ⟨⟨_, _, rfl, rfl⟩, ⟨⟨_, _, rfl, rfl⟩, ⟨⟨_, _, rfl, rfl⟩, ⟨⟨_, _, rfl, rfl⟩, ⟨⟨_, _, rfl, rfl⟩, ⟨⟨_, _, rfl, rfl⟩, trivial⟩⟩⟩⟩⟩⟩⟩⟩⟩⟩⟩⟩⟩⟩⟩⟩⟩⟩⟩⟩⟩⟩⟩⟩⟩⟩, by first | rfl | decide +kernel⟩, by exact ⟨⟨_, rfl⟩, ⟨_, rfl⟩, ⟨⟨_, rfl⟩, ⟨_, rfl⟩, ⟨⟨_, rfl⟩, ⟨_, rfl⟩, ⟨⟨_, rfl⟩, ⟨_, rfl⟩, ⟨⟨_, rfl⟩, ⟨_, rfl⟩, ⟨⟨_, rfl⟩, ⟨_, rfl⟩, ⟨⟨_, rfl⟩, ⟨_, rfl⟩, ⟨⟨_, rfl⟩, ⟨_, rfl⟩, ⟨⟨_, rfl⟩, ⟨_, rfl⟩, ⟨⟨_, rfl⟩, ⟨_, rfl⟩, ⟨⟨_, rfl⟩, ⟨_, rfl⟩, ⟨⟨_, rfl⟩, ⟨_, rfl⟩, ⟨⟨_, rfl⟩, ⟨_, rfl⟩, ⟨⟨_, rfl⟩, ⟨_, rfl⟩, ⟨⟨_, rfl⟩, ⟨_, rfl⟩, ⟨⟨_, rfl⟩, ⟨_, rfl⟩, ⟨⟨_, rfl⟩, ⟨_, rfl⟩, ⟨⟨_, rfl⟩, ⟨_, rfl⟩, ⟨⟨_, rfl⟩, ⟨_, rfl⟩, ⟨⟨_, rfl⟩, ⟨_, rfl⟩, ⟨⟨_, rfl⟩, ⟨_, rfl⟩, ⟨⟨_, rfl⟩, ⟨_, rfl⟩, ⟨⟨_, rfl⟩, ⟨_, rfl⟩, ⟨⟨_, rfl⟩, ⟨_, rfl⟩, ⟨⟨_, rfl⟩, ⟨_, rfl⟩, ⟨⟨_, rfl⟩, ⟨_, rfl⟩, trivial⟩⟩⟩⟩⟩⟩⟩⟩⟩⟩⟩⟩⟩⟩⟩⟩⟩⟩⟩⟩⟩⟩⟩⟩⟩⟩⟩)
    (case v_SHAPES => k_is)
    (case kl_SHAPES => exact ⟨_, _, ⟨by k_is, by exact ⟨⟨_, _, rfl, rfl⟩, ⟨⟨_, _, rfl, rfl⟩, ⟨⟨_, _, rfl, rfl⟩, ⟨⟨_, _, rfl, rfl⟩, ⟨⟨_, _, rfl, rfl⟩, ⟨⟨_, _, rfl, rfl⟩, ⟨⟨_, _, rfl, rfl⟩, trivial⟩⟩⟩⟩⟩⟩⟩, by first | rfl | decide +kernel⟩, by exact ⟨⟨_, rfl⟩, ⟨_, rfl, _, _, _, by k_is, rfl, rfl, by decide, .cons ⟨_, rfl⟩ (.cons ⟨_, rfl⟩ (.cons ⟨_, rfl⟩ (.cons ⟨_, rfl⟩ (.nil))))⟩, ⟨⟨_, rfl⟩, ⟨_, rfl, _, _, _, by k_is, rfl, rfl, by decide, .cons ⟨_, rfl⟩ (.cons ⟨_, rfl⟩ (.cons ⟨_, rfl⟩ (.cons ⟨_, rfl⟩ (.nil))))⟩, ⟨⟨_, rfl⟩, ⟨_, rfl, _, _, _, by k_is, rfl, rfl, by decide, .cons ⟨_, rfl⟩ (.cons ⟨_, rfl⟩ (.cons ⟨_, rfl⟩ (.cons ⟨_, rfl⟩ (.nil))))⟩, ⟨⟨_, rfl⟩, ⟨_, rfl, _, _, _, by k_is, rfl, rfl, by decide, .cons ⟨_, rfl⟩ (.cons ⟨_, rfl⟩ (.cons ⟨_, rfl⟩ (.cons ⟨_, rfl⟩ (.nil))))⟩, ⟨⟨_, rfl⟩, ⟨_, rfl, _, _, _, by k_is, rfl, rfl, by decide, .cons ⟨_, rfl⟩ (.cons ⟨_, rfl⟩ (.cons ⟨_, rfl⟩ (.cons ⟨_, rfl⟩ (.nil))))⟩, ⟨⟨_, rfl⟩, ⟨_, rfl, _, _, _, by k_is, rfl, rfl, by decide, .cons ⟨_, rfl⟩ (.cons ⟨_, rfl⟩ (.cons ⟨_, rfl⟩ (.cons ⟨_, rfl⟩ (.nil))))⟩, ⟨⟨_, rfl⟩, ⟨_, rfl, _, _, _, by k_is, rfl, rfl, by decide, .cons ⟨_, rfl⟩ (.cons ⟨_, rfl⟩ (.cons ⟨_, rfl⟩ (.cons ⟨_, rfl⟩ (.nil))))⟩, trivial⟩⟩⟩⟩⟩⟩⟩⟩)
    (case v_MOST_REGISTER => k_is)
    (case v_FIGURES => k_is)
    (case v_MOST_FIGURES => k_is)
    (case xc_CoreError => exact ⟨_, _, _, _, _, _, _, _, _, _, _, _, _, _, by k_is⟩)
    (case xc_InvalidInstruction => exact ⟨_, _, _, _, _, _, _, _, _, _, _, _, _, _, by k_is⟩)
    (case xc_InvalidListing => exact ⟨_, _, _, _, _, _, _, _, _, _, _, _, _, _, by k_is⟩)
    (case l_CoreError___init__ => exact ⟨_, _, _, _, _, _, _, _, _, rfl, by k_is, by k_is⟩)
    (case kp_CoreError___init__ => k_is)
    (case xt_CoreError___init__ => k_is)
    (case l_is_integer => exact ⟨_, _, _, _, _, _, _, _, _, rfl, by k_is, by k_is⟩)
    (case kp_is_integer => k_is)
    (case l_is_count => exact ⟨_, _, _, _, _, _, _, _, _, rfl, by k_is, by k_is⟩)
    (case kp_is_count => k_is)
    (case l_is_instruction_value => exact ⟨_, _, _, _, _, _, _, _, _, rfl, by k_is, by k_is⟩)
    (case kp_is_instruction_value => k_is)
    (case l_want_instruction => exact ⟨_, _, _, _, _, _, _, _, _, rfl, by k_is, by k_is⟩)
    (case kp_want_instruction => k_is)
    (case l_listing_text => exact ⟨_, _, _, _, _, _, _, _, _, rfl, by k_is, by k_is⟩)
    (case kp_listing_text => k_is)
    (case l_register_in => exact ⟨_, _, _, _, _, _, _, _, _, rfl, by k_is, by k_is⟩)
    (case kp_register_in => k_is)
    (case l_integer_in => exact ⟨_, _, _, _, _, _, _, _, _, rfl, by k_is, by k_is⟩)
    (case kp_integer_in => k_is)
    (case l_listing_instruction => exact ⟨_, _, _, _, _, _, _, _, _, rfl, by k_is, by k_is⟩)
    (case kp_listing_instruction => k_is)
    (case l_text_of => exact ⟨_, _, _, _, _, _, _, _, _, rfl, by k_is, by k_is⟩)
    (case kp_text_of => k_is)
    (case l_instruction_of => exact ⟨_, _, _, _, _, _, _, _, _, rfl, by k_is, by k_is⟩)
    (case kp_instruction_of => k_is)
    (case l__law_pot => exact ⟨_, _, _, _, _, _, _, _, _, rfl, by k_is, by k_is⟩)
    (case kp__law_pot => k_is)
    (case l__law_draw => exact ⟨_, _, _, _, _, _, _, _, _, rfl, by k_is, by k_is⟩)
    (case kp__law_draw => k_is)
    (case l__law_pick => exact ⟨_, _, _, _, _, _, _, _, _, rfl, by k_is, by k_is⟩)
    (case kp__law_pick => k_is)
    (case l__law_names => exact ⟨_, _, _, _, _, _, _, _, _, rfl, by k_is, by k_is⟩)
    (case kp__law_names => k_is)
    (case l__law_form => exact ⟨_, _, _, _, _, _, _, _, _, rfl, by k_is, by k_is⟩)
    (case kp__law_form => k_is)
    (case l__law_shape => exact ⟨_, _, _, _, _, _, _, _, _, rfl, by k_is, by k_is⟩)
    (case kp__law_shape => k_is)
    (case l__law_drawn => exact ⟨_, _, _, _, _, _, _, _, _, rfl, by k_is, by k_is⟩)
    (case kp__law_drawn => k_is)
    (case l__law_text => exact ⟨_, _, _, _, _, _, _, _, _, rfl, by k_is, by k_is⟩)
    (case kp__law_text => k_is)
    (case l__law_number => exact ⟨_, _, _, _, _, _, _, _, _, rfl, by k_is, by k_is⟩)
    (case kp__law_number => k_is)
    (case l__law_read => exact ⟨_, _, _, _, _, _, _, _, _, rfl, by k_is, by k_is⟩)
    (case kp__law_read => k_is)
    (case l__law_heard => exact ⟨_, _, _, _, _, _, _, _, _, rfl, by k_is, by k_is⟩)
    (case kp__law_heard => k_is)
    (case l__law_bent => exact ⟨_, _, _, _, _, _, _, _, _, rfl, by k_is, by k_is⟩)
    (case kp__law_bent => k_is)
    (case l_law => exact ⟨_, _, _, _, _, _, _, _, _, rfl, by k_is, by k_is⟩)
    (case kp_law => k_is)
#print axioms PySem.Challenge.cw_orderlycore_k18_whole_listing_holds
