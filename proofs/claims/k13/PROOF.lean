import PyProof.Rows.All
import Wide.All
import OpenK.AllK
import Wide.FinOn
import HandS.ForMost
import HandS.ForExc
import HandS.Property
import HandS.IsInst
import HandS.ExcInit
import HandS.Defaults
import HandS.MakeKwOnly
import HandS.Flow
import HandS.CallSlots
import HandS.Evl
import HandS.Wide
import HandS.Walk
import HandS.Conv
import HandS.Style
import HandS.Base
import HandS.List
import HandS.Words
import HandS.SortInts
import PyProof.ReprRoads
import PyProof.ReprLen
import HandS.More
import KE.DataFind
import PyProof.DictUpdate
import HandS.OwnEq
import HandS.Strs
import HandS.SetFor
import HandS.TupSets
import HandS.DictComp
import HandS.TupAny
import KE.BitLaws
import HandS.TupMul
import HandS.Zip
import HandS.Iter
import HandS.SortRule
import KE.GoesMore
import HandS.CallLocal
import HandS.ExcOwn
import KE.KTupSum
import KE.KDictZip
import KE.GoesZip
import PyProof.ExcBaseAll.RuntimeError
import KE.SortUse
import HandS.DictTup
import KE.KDictWalk
import HandS.ExcField
import PySem.Challenge.RW_orderlycore_k13_whole_settings_told
set_option Elab.async false
set_option linter.all false
set_option maxRecDepth 100000
set_option maxHeartbeats 4000000
set_option synthInstance.maxSize 1000
set_option synthInstance.maxHeartbeats 400000

namespace Toy
open PySem L2
theorem exm_self {K : PySem.W.Frag} {S : Addr} (h1 : PySem.W.subIn K (.ref S) (.type "BaseException") = some true) (h2 : PySem.W.isClsIn K S = true) (h3 : PySem.W.typeIn K (.ref S) = some (.type "type")) (h4 : PySem.W.subIn K (.ref S) (.ref S) = some true) :
    PySem.W.exmOne K (.ref S) (.ref S) = some true := by
  have e1 : (PySem.W.subIn K (.ref S) (.type "BaseException") == some true) = true := by rw [h1] <;> rfl
  have e2 : ((PySem.W.clsIn K S).isSome && PySem.W.typeIn K (.ref S) == some (.type "type")) = true := by
    have h2' : (PySem.W.clsIn K S).isSome = true := h2
    rw [h2', h3] <;> rfl
  show (if (PySem.W.subIn K (.ref S) (.type "BaseException") == some true) = true then (if ((PySem.W.clsIn K S).isSome && PySem.W.typeIn K (.ref S) == some (.type "type")) = true then PySem.W.subIn K (.ref S) (.ref S) else none) else none) = some true
  rw [if_pos e1, if_pos e2]
  exact h4
theorem vals_getD {vs : List V} {us : List Value} (r : Vals vs us) (i : Nat) : RelV (vs.getD i V.non) (us.getD i PySem.Value.none) := by
  induction r generalizing i with
  | nil => rfl
  | cons h t ih =>
    cases i with
    | zero => exact h
    | succ i => exact ih i
theorem kbn_of {K : PySem.W.Frag} {x qual : Str} {st : Stmt} {f : Addr} {fd : FuncData} {ps ks : List Str} {n : Nat} {g : List Value → List Value → List Value} {gV : List V → List V → List V} (F : Fun K x qual st f fd)
    (h : ∀ (kV doc pm : Value) (an : Option Addr) (cdv ct : Value) (us ws : List Value), us.length = n → ws.length = ks.length → bindArgs (PySem.W.fnOf x qual (defArgs st) (defBody st) (defScope st) .none kV doc pm an cdv ct) ⟨us, ks.zip ws⟩ = pure (ps.zip (g us ws)))
    (hr : ∀ {vs : List V} {us : List Value} {zs : List V} {ws : List Value}, Vals vs us → Vals zs ws → Vals (gV vs zs) (g us ws)) : KBn K fd ps n ks g gV := by
  obtain ⟨oc, od, kV, doc, pm, an, cdv, ct, osl, rfl, lk, hcd⟩ := F.ex
  exact ⟨fun s us ws _ h1 h2 => .of_eq (h kV doc pm an cdv ct us ws h1 h2), hr⟩
theorem same_new {H : Hp} {p : Addr} {o : HO} (h : H p = none) : Same H (upd H p o) := fun b u e => by
  rw [upd_ne (ne_of_none e h)]
  exact e
theorem same_ty {K : PySem.W.Frag} {H H' : Hp} {v : V} {t : Value} (e : Same H H') (h : TyX K H v t) : TyX K H' v t := by
  cases h with
  | base h =>
    refine .base ?_
    cases h with
    | non => exact .non
    | bl x => exact .bl x
    | int i => exact .int i
    | str x => exact .str x
    | flt x => exact .flt x
    | lst q => exact .lst (e _ _ q)
    | frz q => exact .frz (e _ _ q)
    | tup q => exact .tup (e _ _ q)
    | dK q => exact .dK (e _ _ q)
    | dT q => exact .dT (e _ _ q)
    | ins q cl ha hn htk hm => exact .ins (e _ _ q) cl ha hn htk hm
  | byt b => exact .byt b
  | set q => exact .set (e _ _ q)
  | kList q c => exact .kList q c
  | kTuple q c => exact .kTuple q c
  | kDict q c => exact .kDict q c
  | fTuple q => exact .fTuple (e _ _ q)
  | fDict q => exact .fDict (e _ _ q)
/-! ### stepping through a reading -/
section
variable {K : PySem.W.Frag} {σ τ : St} {H H' : Hp} {Q : VK} {D : Ends} {nx bk ct : St → Hp → Prop} {rt : VK} {v x y : V} {te ta tb : TE} {t u : TS} {c d : TT} {p : Addr}
theorem w_in {N : List Str} {vs : List V} (h : start N vs = σ) (q : t D σ H) : t D (start N vs) H := by rw [h]; exact q
theorem w_var {i : Nat} (h : σ[i]? = some (some v)) (q : Q v H) : tVar i σ H Q := ⟨v, h, q⟩
theorem w_c (q : Q v H) : tC v σ H Q := q
theorem w_op {r : R2} (q : ta σ H fun x H1 => tb σ H1 fun y H2 => r x y H2 Q) : tOp r ta tb σ H Q := q
theorem w_un {r : V → Hp → VK → Prop} (q : ta σ H fun x H1 => r x H1 Q) : tUn r ta σ H Q := q
theorem w_I0 {g : Int → Int → V} {i j : Int} (q : Q (g i j) H) : rI0 g (.int i) (.int j) H Q := ⟨i, j, rfl, rfl, q⟩
theorem w_I {C : Int → Int → Prop} {g : Int → Int → V} {i j : Int} (hc : C i j) (q : Q (g i j) H) : rI C g (.int i) (.int j) H Q := ⟨i, j, rfl, rfl, hc, q⟩
theorem w_U {g : Int → V} {i : Int} (q : Q (g i) H) : rU g (.int i) H Q := ⟨i, rfl, q⟩
theorem w_eq (h : scal x y = true) (q : Q (.bl (decide (x = y))) H) : rEq x y H Q := ⟨h, q⟩
theorem w_ne (h : scal x y = true) (q : Q (.bl (!decide (x = y))) H) : rNe x y H Q := ⟨h, q⟩
theorem w_cb {r : List V → Hp → VK → Prop} {t : TA} (q : t σ H fun vs H1 => r vs H1 Q) : tCB r t σ H Q := q
theorem w_nil {Q : List V → Hp → Prop} (q : Q [] H) : tNil σ H Q := q
theorem w_cons {Q : List V → Hp → Prop} {tr : TA} (q : ta σ H fun x H1 => tr σ H1 fun xs H2 => Q (x :: xs) H2) : tCons ta tr σ H Q := q
theorem w_call {sp : Sp} {dvs : List V} {E : XK} {t : TA} (q : t σ H fun vs H1 => sp (vs ++ dvs) H1 Q E) : tCall sp dvs E t σ H Q := q
theorem w_tup {t : TA} (q : t σ H fun xs H1 => xs.length ≤ sizeLine ∧ ∀ p, H1 p = none → Q (.ref p) (upd H1 p (.tup xs))) : tTup t σ H Q := q
theorem w_lst {t : TA} (q : t σ H fun xs H1 => xs.length ≤ sizeLine ∧ ∀ p, H1 p = none → Q (.ref p) (upd H1 p (.lst xs))) : tLst t σ H Q := q
theorem w_laid {n : Nat} {R : Addr → Prop} (h : n ≤ 100000) (q : ∀ p, H p = none → R p) : n ≤ sizeLine ∧ ∀ p, H p = none → R p := ⟨Nat.le_trans h (by decide), q⟩
def kFld (K : PySem.W.Frag) (f : Str) (Q : VK) (x : V) (H : Hp) : Prop := ∃ a C dx fs v, x = .ref a ∧ H a = some (.ins C dx fs) ∧ Cls K C ∧ NoAttr K C f ∧ fs.lookup f = some v ∧ Q v H
theorem w_fld0 {f : Str} (q : ta σ H fun x H1 => kFld K f Q x H1) : tFld K ta f σ H Q := q
theorem w_fld {f : Str} {a C dx : Addr} {fs : List (Str × V)} (h : H a = some (.ins C dx fs)) (hc : Cls K C) (hn : NoAttr K C f) (hl : fs.lookup f = some v) (q : Q v H) : kFld K f Q (.ref a) H :=
  ⟨a, C, dx, fs, v, rfl, h, hc, hn, hl, q⟩
def kSF (K : PySem.W.Frag) (f : Str) (nx : St → Hp → Prop) (σ : St) (y x : V) (H : Hp) : Prop := ∃ a C dx fs, x = .ref a ∧ H a = some (.ins C dx fs) ∧ Cls K C ∧ NoAttr K C f ∧ fs.length < 1000 ∧ nx σ (upd H a (.ins C dx (putF f y fs)))
theorem w_sfld0 {f : Str} {tv : TE} (q : tv σ H fun y H1 => ta σ H1 fun x H2 => kSF K f nx σ y x H2) : sFld K ta tv f ⟨nx, rt, bk, ct⟩ σ H := q
theorem w_sfld {f : Str} {a C dx : Addr} {fs fs' : List (Str × V)} (h : H a = some (.ins C dx fs)) (hc : Cls K C) (hn : NoAttr K C f) (hl : fs.length < 1000) (he : putF f y fs = fs') (q : nx σ (upd H a (.ins C dx fs'))) : kSF K f nx σ y (.ref a) H :=
  ⟨a, C, dx, fs, rfl, h, hc, hn, hl, by rw [he]; exact q⟩
theorem w_meth0 {C : Addr} {m : Str} {sp : Sp} {dvs : List V} {E : XK} {t : TA} (q : ta σ H fun x H1 => ∃ a dx fs, x = .ref a ∧ H1 a = some (.ins C dx fs) ∧ fs.lookup m = none ∧ t σ H1 fun vs H2 => sp (x :: (vs ++ dvs)) H2 Q E) : tMeth C m sp dvs E ta t σ H Q := q
theorem w_meth {R : Prop} {m : Str} {a C dx : Addr} {fs : List (Str × V)} (h : H a = some (.ins C dx fs)) (hl : fs.lookup m = none) (q : R) : ∃ a' dx fs, V.ref a = .ref a' ∧ H a' = some (.ins C dx fs) ∧ fs.lookup m = none ∧ R := ⟨a, dx, fs, rfl, h, hl, q⟩
theorem w_prop0 {C : Addr} {sp : Sp} {dvs : List V} {E : XK} (q : ta σ H fun x H1 => ∃ a dx fs, x = .ref a ∧ H1 a = some (.ins C dx fs) ∧ sp (.ref a :: dvs) H1 Q E) : tProp C sp dvs E ta σ H Q := q
theorem w_prop {C a dx : Addr} {fs : List (Str × V)} {sp : Sp} {dvs : List V} {E : XK} (h : H a = some (.ins C dx fs)) (q : sp (.ref a :: dvs) H Q E) : ∃ a' dx fs, V.ref a = .ref a' ∧ H a' = some (.ins C dx fs) ∧ sp (.ref a' :: dvs) H Q E := ⟨a, dx, fs, rfl, h, q⟩
theorem w_make {C : Addr} {sp : Sp} {dvs : List V} {E : XK} {t : TA} (q : t σ H fun vs H1 => ∀ x dx, H1 x = none → H1 dx = none → dx ≠ x → sp (.ref x :: (vs ++ dvs)) (upd (upd H1 dx (.own x)) x (.ins C dx [])) (fun v H2 => v = .non ∧ Q (.ref x) H2) E) : tMake C sp dvs E t σ H Q := q
theorem w_makeK {C : Addr} {j l : Nat} {sp : Sp} {gV : List V → List V → List V} {E : XK} {t tk : TA} (q : t σ H fun vs H1 => tk σ H1 fun zs H2 => vs.length = j ∧ zs.length = l ∧ ∀ x dx, H2 x = none → H2 dx = none → dx ≠ x → sp (gV (.ref x :: vs) zs) (upd (upd H2 dx (.own x)) x (.ins C dx [])) (fun v H2 => v = .non ∧ Q (.ref x) H2) E) : tMakeK C j l sp gV E t tk σ H Q := q
theorem w_ixL {a : Addr} {xs : List V} {i : Int} (h : SqL K H a xs) (hi : atI xs i = some v) (q : Q v H) : rIxL K (.ref a) (.int i) H Q := ⟨a, xs, i, v, rfl, rfl, h, hi, q⟩
theorem w_ixT {a : Addr} {xs : List V} {i : Int} (h : SqT K H a xs) (hi : atI xs i = some v) (q : Q v H) : rIxT K (.ref a) (.int i) H Q := ⟨a, xs, i, v, rfl, rfl, h, hi, q⟩
theorem w_setL {a : Addr} {xs : List V} {i : Int} {j : Nat} {Q : Hp → Prop} (h : H a = some (.lst xs)) (hi : ixN xs.length i = some j) (q : Q (upd H a (.lst (xs.set j v)))) : rSetL (.ref a) (.int i) v H Q := ⟨a, xs, i, j, rfl, rfl, h, hi, q⟩
theorem w_gsub {to ti : TE} {ts : TSet} {Q : St → Hp → Prop} (q : to σ H fun o H1 => ti σ H1 fun i H2 => ts o i v H2 fun H3 => Q σ H3) : gSub to ti ts v σ H Q := q
theorem w_gname {i : Nat} {Q : St → Hp → Prop} (q : Q (σ.set i (some v)) H) : gName i v σ H Q := q
theorem w_gtup {n : Nat} {ts : TGs} {a : Addr} {xs : List V} {Q : St → Hp → Prop} (h : SqT K H a xs) (hn : xs.length = n) (q : ts xs σ H Q) : gTup K n ts (.ref a) σ H Q := ⟨a, xs, rfl, h, hn, q⟩
theorem w_gcons {tg : TG} {ts : TGs} {r : List V} {Q : St → Hp → Prop} (q : tg v σ H fun σ' H' => ts r σ' H' Q) : gCons tg ts (v :: r) σ H Q := ⟨v, r, rfl, q⟩
theorem w_gnil {Q : St → Hp → Prop} (q : Q σ H) : gNil [] σ H Q := ⟨rfl, q⟩
theorem w_seq (q : t ⟨u ⟨nx, rt, bk, ct⟩, rt, bk, ct⟩ σ H) : tSeq t u ⟨nx, rt, bk, ct⟩ σ H := q
theorem w_dec {c : Prop} [Decidable c] (h : c) (q : Q (.bl true) H) : Q (.bl (decide c)) H := by rw [decide_eq_true h]; exact q
theorem w_cut (M : St → Hp → Prop) (q : t ⟨M, rt, bk, ct⟩ σ H) (k : ∀ σ' H', M σ' H' → u ⟨nx, rt, bk, ct⟩ σ' H') : Evl.tCut t u ⟨nx, rt, bk, ct⟩ σ H := ⟨M, q, k⟩
theorem w_next (q : nx σ H) : tNext ⟨nx, rt, bk, ct⟩ σ H := q
theorem w_brk (q : bk σ H) : tBreak ⟨nx, rt, bk, ct⟩ σ H := q
theorem w_cont (q : ct σ H) : tCont ⟨nx, rt, bk, ct⟩ σ H := q
theorem w_drop (q : te σ H fun _ H1 => nx σ H1) : tDrop te ⟨nx, rt, bk, ct⟩ σ H := q
theorem w_ret (q : te σ H rt) : tRet te ⟨nx, rt, bk, ct⟩ σ H := q
theorem w_retN (q : rt .non H) : tRetN ⟨nx, rt, bk, ct⟩ σ H := q
theorem w_asg {g : TG} (q : te σ H fun x H1 => g x σ H1 nx) : tAsg te g ⟨nx, rt, bk, ct⟩ σ H := q
theorem w_ifs (q : c σ H fun b H1 => if b = true then t ⟨nx, rt, bk, ct⟩ σ H1 else u ⟨nx, rt, bk, ct⟩ σ H1) : tIfS c t u ⟨nx, rt, bk, ct⟩ σ H := q
theorem w_par {i j : Nat} {t : TA} (q : t σ H fun vs H1 => ∃ v w, vs = [v, w] ∧ nx ((σ.set i (some v)).set j (some w)) H1) : tPar i j t ⟨nx, rt, bk, ct⟩ σ H := q
theorem w_vw {v w : V} {R : V → V → Prop} (q : R v w) : ∃ v' w', [v, w] = [v', w'] ∧ R v' w' := ⟨v, w, rfl, q⟩
theorem w_if0 (q : c σ H fun b H1 => if b = true then ta σ H1 Q else tb σ H1 Q) : tIf c ta tb σ H Q := q
theorem w_test {Q : Bool → Hp → Prop} (q : te σ H fun x H' => ∃ k, x = .bl k ∧ Q k H') : tTest te σ H Q := q
theorem w_B {Q : Bool → Hp → Prop} (q : te σ H fun x H' => ∃ k, x = .bl k ∧ Q k H') : tB te σ H Q := q
theorem w_and {Q : Bool → Hp → Prop} (q : c σ H fun b H1 => if b = true then d σ H1 Q else Q false H1) : tAnd c d σ H Q := q
theorem w_or {Q : Bool → Hp → Prop} (q : c σ H fun b H1 => if b = true then Q true H1 else d σ H1 Q) : tOr c d σ H Q := q
theorem w_not {Q : Bool → Hp → Prop} (q : c σ H fun b H1 => Q (!b) H1) : tNot c σ H Q := q
theorem w_andV (q : ta σ H fun x H1 => ∃ k, x = .bl k ∧ if k = true then tb σ H1 Q else Q (.bl false) H1) : tAndV ta tb σ H Q := q
theorem w_orV (q : ta σ H fun x H1 => ∃ k, x = .bl k ∧ if k = true then Q (.bl true) H1 else tb σ H1 Q) : tOrV ta tb σ H Q := q
theorem w_notV (q : ta σ H fun x H1 => ∃ k, x = .bl k ∧ Q (.bl (!k)) H1) : tNotV ta σ H Q := q
theorem w_bl {b : Bool} {R : Bool → Prop} (q : R b) : ∃ k, V.bl b = .bl k ∧ R k := ⟨b, rfl, q⟩
theorem w_iI {i : Int} {R : Int → Prop} (q : R i) : ∃ k, [V.int i] = [.int k] ∧ R k := ⟨i, rfl, q⟩
theorem w_iIJ {i j : Int} {R : Int → Int → Prop} (q : R i j) : ∃ k l, [V.int i, V.int j] = [.int k, .int l] ∧ R k l := ⟨i, j, rfl, q⟩
theorem w_int1 {i : Int} {R : Int → Prop} {S : Bool → Prop} (q : R i) : (∃ k, [V.int i] = [.int k] ∧ R k) ∨ ∃ b, [V.int i] = [.bl b] ∧ S b := .inl ⟨i, rfl, q⟩
theorem w_lenL {a : Addr} {xs : List V} {R : List V → Prop} (h : SqL K H a xs) (q : R xs) : ∃ p ys, [V.ref a] = [.ref p] ∧ (SqL K H p ys ∨ SqT K H p ys) ∧ R ys := ⟨a, xs, rfl, .inl h, q⟩
theorem w_lenT {a : Addr} {xs : List V} {R : List V → Prop} (h : SqT K H a xs) (q : R xs) : ∃ p ys, [V.ref a] = [.ref p] ∧ (SqL K H p ys ∨ SqT K H p ys) ∧ R ys := ⟨a, xs, rfl, .inr h, q⟩
theorem ifT {c A B : Prop} [Decidable c] (h : c) (q : A) : if decide c = true then A else B := by rw [decide_eq_true h]; exact iteT q
theorem ifF {c A B : Prop} [Decidable c] (h : ¬ c) (q : B) : if decide c = true then A else B := by rw [decide_eq_false h]; exact iteF q
theorem ifT' {c A B : Prop} [Decidable c] (h : c) (q : B) : if (!decide c) = true then A else B := by rw [decide_eq_true h]; exact iteF q
theorem ifF' {c A B : Prop} [Decidable c] (h : ¬ c) (q : A) : if (!decide c) = true then A else B := by rw [decide_eq_false h]; exact iteT q
theorem ifS {c A B : Prop} [Decidable c] (h1 : c → A) (h2 : ¬ c → B) : if decide c = true then A else B := by
  by_cases h : c
  · exact ifT h (h1 h)
  · exact ifF h (h2 h)
theorem ifS' {c A B : Prop} [Decidable c] (h1 : c → B) (h2 : ¬ c → A) : if (!decide c) = true then A else B := by
  by_cases h : c
  · exact ifT' h (h1 h)
  · exact ifF' h (h2 h)
theorem ifB {b : Bool} {A B : Prop} (h1 : b = true → A) (h2 : b = false → B) : if b = true then A else B := by
  cases b with
  | true => exact iteT (h1 rfl)
  | false => exact iteF (h2 rfl)
theorem w_andP {b1 b2 : Bool} {Q : Bool → Hp → Prop} (hc : ∀ R : Bool → Hp → Prop, R b1 H → c σ H R) (hd : ∀ R : Bool → Hp → Prop, R b2 H → d σ H R) (q : Q (b1 && b2) H) : tAnd c d σ H Q := by
  refine hc _ ?_
  cases b1 with
  | true => exact iteT (hd _ q)
  | false => exact iteF q
theorem w_orP {b1 b2 : Bool} {Q : Bool → Hp → Prop} (hc : ∀ R : Bool → Hp → Prop, R b1 H → c σ H R) (hd : ∀ R : Bool → Hp → Prop, R b2 H → d σ H R) (q : Q (b1 || b2) H) : tOr c d σ H Q := by
  refine hc _ ?_
  cases b1 with
  | true => exact iteT q
  | false => exact iteF (hd _ q)
theorem dec_vint {i j : Int} : decide (V.int i = V.int j) = decide (i = j) := by
  by_cases h : i = j
  · subst h; simp
  · rw [decide_eq_false h, decide_eq_false (fun e => h (V.int.inj e))]
end
/-- only what stands at p may have changed -/
def Chg (p : Addr) (H H' : Hp) : Prop := ∀ b o, H b = some o → b ≠ p → H' b = some o
theorem Chg.refl {p : Addr} {H : Hp} : Chg p H H := fun _ _ h _ => h
theorem Chg.same {p : Addr} {H H' H1 : Hp} (a : Chg p H H') (b : Same H' H1) : Chg p H H1 := fun c o h n => b c o (a c o h n)
theorem Same.chg {p : Addr} {H H' : Hp} (a : Same H H') : Chg p H H' := fun b o h _ => a b o h
theorem Chg.trans {p : Addr} {H H' H1 : Hp} (a : Chg p H H') (b : Chg p H' H1) : Chg p H H1 := fun c o h n => b c o (a c o h n) n
theorem Chg.upd {p : Addr} {H H' : Hp} {o : HO} (a : Chg p H H') : Chg p H (upd H' p o) := fun c u h n => by rw [upd_ne n]; exact a c u h n
theorem same_upd {H H' : Hp} {p : Addr} {o : HO} (a : Same H H') (h : H' p = none) : Same H (upd H' p o) := a.trans (same_new h)
theorem same_updF {H H' : Hp} {p : Addr} {o : HO} (a : Same H H') (h : H p = none) : Same H (upd H' p o) := fun b u e => by
  rw [upd_ne (ne_of_none e h)]
  exact a b u e
theorem atI_ints {ns : List Int} {k : Int} (h0 : 0 ≤ k) (h : k < (ns.map V.int).length) : ∃ n, n ∈ ns ∧ atI (ns.map V.int) k = some (.int n) ∧ ns[k.toNat]? = some n := by
  rw [List.length_map] at h
  have hj : k.toNat < ns.length := by omega
  refine ⟨ns[k.toNat], List.getElem_mem hj, ?_, List.getElem?_eq_getElem hj⟩
  have e : ((k.toNat : Nat) : Int) = k := by omega
  have q : atI (ns.map V.int) ((k.toNat : Nat) : Int) = some (V.int ns[k.toNat]) := atI_nat (by rw [List.getElem?_map]; simp [hj])
  rw [e] at q
  exact q
theorem atI_mem {xs : List V} {k : Int} (h0 : 0 ≤ k) (h : k < xs.length) : ∃ v, v ∈ xs ∧ atI xs k = some v ∧ xs[k.toNat]? = some v := by
  have hj : k.toNat < xs.length := by omega
  refine ⟨xs[k.toNat], List.getElem_mem hj, ?_, List.getElem?_eq_getElem hj⟩
  have e : ((k.toNat : Nat) : Int) = k := by omega
  have q : atI xs ((k.toNat : Nat) : Int) = some xs[k.toNat] := atI_nat (by simp [hj])
  rw [e] at q
  exact q
/-! ### rules with the written part by its name (within a comprehension) -/
section
variable {X : Cx} {K : PySem.W.Frag}
theorem ixLK (h : X.K = K := by rfl) : IxR X (rIxL K) := h ▸ ix_list
theorem ixTK (h : X.K = K := by rfl) : IxR X (rIxT K) := h ▸ ix_tup
theorem inK (h : X.K = K := by rfl) : OpR X (compareOp .In) (rIn K false) := h ▸ op_in_seq
theorem notInK (h : X.K = K := by rfl) : OpR X (compareOp .NotIn) (rIn K true) := h ▸ op_notIn_seq
theorem slLK (h : X.K = K := by rfl) : SlR X (rSlL K) := h ▸ sl_list
theorem slTK (h : X.K = K := by rfl) : SlR X (rSlT K) := h ▸ sl_tup
theorem eqDK (hu : X.A.units + 64 < cLine) (h : X.K = K := by rfl) : OpR X (compareOp .Eq) (rEqD K) := h ▸ op_eqD hu
theorem neDK (hu : X.A.units + 64 < cLine) (h : X.K = K := by rfl) : OpR X (compareOp .NotEq) (rNeD K) := h ▸ op_neD hu
theorem fldK {e : Expr} {f : Str} {ta : TE} {pos : Pos} (he : PE X e ta) (hb : attributeBase e f X.env (eval e X.env) = eval e X.env) (h : X.K = K := by rfl) : PE X (.Attribute e f pos) (tFld K ta f) := h ▸ pe_fld he hb
theorem lenK (h : X.K = K := by rfl) : CallR X (.builtin "len") (fun xs H Q => ∃ p ys, xs = [.ref p] ∧ (SqL K H p ys ∨ SqT K H p ys) ∧ Q (.int ys.length) H) := h ▸ call_len_seq
theorem isiK (h : X.K = K := by rfl) : CallR X (.builtin "isinstance") (rIsi K) := h ▸ call_isi
end
/-! ### methods called in a try, by keywords -/
section
open PySem.Spec PyProof.Rows
variable {X : Cx} {CX : CXT} {k : Nat} {f C : Addr} {fd : FuncData} {ps ks : List Str} {sp : Sp} {m x : Str} {p pos apos : Pos} {e o : Expr} {es : List Expr} {kws : List Keyword} {ta : TE} {t tk : TA} {g : List Value → List Value → List Value} {gV : List V → List V → List V} {n : Nat}
def tMethSx (C : Addr) (m : Str) (sp : Sp) (E : L2.St → XK) (ta : TE) (t : TA) : TE := fun σ H Q => ta σ H fun x H1 => ∃ a dx fs, x = .ref a ∧ H1 a = some (.ins C dx fs) ∧ fs.lookup m = none ∧
  t σ H1 fun vs H2 => sp (x :: vs) H2 Q (E σ)
theorem pe_methSx {E : L2.St → XK} {pl : Sem Bool} (he : PE X o ta) (c : Cls X.K C) (hm : Meth X.K C m f) (F : FnOk X.prog X.w X.K X.mg X.base CX k f fd ps sp) (hr : Room k X.A) (hb : Binds X.K fd ps []) (hx : ∀ σ, PassesAt CX X σ (E σ)) (ha : PA X (e :: es) t)
    (hst : starEach (e :: es) X.env = (false, eval e X.env) :: starEach es X.env := by rfl) (hpl : (backTo pos (starEach es X.env)).any (·.1) = false := by rfl)
    (ht : eval (.Call (.Attribute o m apos) (e :: es) [] pos) X.env = (do
      let ov ← eval o X.env
      standAt apos.atName
      let (f, first) ← holding [ov] (getMethod ov m pl)
      callWith pos f first (backTo pos (starEach (e :: es) X.env)) (backToKw pos (keywordEach [] X.env))) := by rfl) :
    PE X (.Call (.Attribute o m apos) (e :: es) [] pos) (tMethSx C m sp E ta t) := by
  refine ⟨fun pins s σ H Q I h => ?_⟩
  refine PySem.W.methodCall_KW (pl := pl) (thn (he.run pins s σ H _ I h) fun u s1 ⟨x, H1, I1, rx, a, dx, fs, ex, ea, l, q⟩ => ?_) ht
  subst ex
  obtain rfl : u = Value.ref a := rx
  refine getmeth_ok I1 ea c hm l ?_
  refine PySem.W.callWith_K (first := [.ref a]) (h₀ := X.base) I.ok.mod.kin hm.kp (thn (ha.run pos pins s1 σ H1 _ I1 q) fun us s2 ⟨vs, H2, I2, r, q2⟩ => ⟨I2.kIn, ?_⟩) hst hpl
  exact run_fnS (us := .ref a :: us) (vs := .ref a :: vs) F hr hb (hx σ) I2 (.cons rfl r) q2
def tMethN (C : Addr) (m : Str) (j l : Nat) (sp : Sp) (gV : List V → List V → List V) (E : XK) (ta : TE) (t tk : TA) : TE := fun σ H Q => ta σ H fun x H1 => ∃ a dx fs, x = .ref a ∧ H1 a = some (.ins C dx fs) ∧ fs.lookup m = none ∧
  t σ H1 fun vs H2 => tk σ H2 fun zs H3 => vs.length = j ∧ zs.length = l ∧ sp (gV (x :: vs) zs) H3 Q E
theorem pe_methN0 {E : XK} {pl : Sem Bool} (he : PE X o ta) (c : Cls X.K C) (hm : Meth X.K C m f) (F : FnOk X.prog X.w X.K X.mg X.base CX k f fd ps sp) (hr : Room k X.A) (hb : KBn X.K fd ps 1 ks g gV) (hx : Passes CX X E) (hkw : PK X kws tk)
    (hall : (backToKw pos (keywordEach kws X.env)).all (·.1.isSome) = true := by rfl) (hks : (backToKw pos (keywordEach kws X.env)).filterMap (·.1) = ks := by rfl)
    (hpl : ((backTo pos (starEach [] X.env)).any (·.1) || (backToKw pos (keywordEach kws X.env)).any (·.1.isNone)) = false := by rfl)
    (ht : eval (.Call (.Attribute o m apos) [] kws pos) X.env = (do
      let ov ← eval o X.env
      standAt apos.atName
      let (f, first) ← holding [ov] (getMethod ov m pl)
      callWith pos f first (backTo pos (starEach [] X.env)) (backToKw pos (keywordEach kws X.env))) := by rfl) :
    PE X (.Call (.Attribute o m apos) [] kws pos) (tMethN C m 0 ks.length sp gV E ta tNil tk) := by
  refine ⟨fun pins s σ H Q I h => ?_⟩
  refine PySem.W.methodCall_KW (pl := pl) (thn (he.run pins s σ H _ I h) fun u s1 ⟨x, H1, I1, rx, a, dx, fs, ex, ea, l, q⟩ => ?_) ht
  subst ex
  obtain rfl : u = Value.ref a := rx
  refine getmeth_ok I1 ea c hm l ?_
  refine PySem.W.callWith_KW0 (first := [.ref a]) (h₀ := X.base) I.ok.mod.kin hm.kp hall ?_ hpl
  refine thn (hkw.run pos pins s1 σ H1 _ I1 q) fun ws s2 ⟨zs, H2, I2, rz, l1, l2, q2⟩ => ⟨I2.kIn, ?_⟩
  rw [hks]
  exact run_fnN (us := [.ref a]) (vs := [.ref a]) F hr hb hx I2 (.cons rfl .nil) rz rfl l2 q2
theorem pe_methN {E : XK} {pl : Sem Bool} (he : PE X o ta) (c : Cls X.K C) (hm : Meth X.K C m f) (F : FnOk X.prog X.w X.K X.mg X.base CX k f fd ps sp) (hr : Room k X.A) (hb : KBn X.K fd ps (n + 1) ks g gV) (hx : Passes CX X E) (ha : PA X (e :: es) t) (hkw : PK X kws tk)
    (hall : (backToKw pos (keywordEach kws X.env)).all (·.1.isSome) = true := by rfl) (hks : (backToKw pos (keywordEach kws X.env)).filterMap (·.1) = ks := by rfl)
    (hst : starEach (e :: es) X.env = (false, eval e X.env) :: starEach es X.env := by rfl)
    (hpl : ((backTo pos (starEach (e :: es) X.env)).any (·.1) || (backToKw pos (keywordEach kws X.env)).any (·.1.isNone)) = false := by rfl)
    (ht : eval (.Call (.Attribute o m apos) (e :: es) kws pos) X.env = (do
      let ov ← eval o X.env
      standAt apos.atName
      let (f, first) ← holding [ov] (getMethod ov m pl)
      callWith pos f first (backTo pos (starEach (e :: es) X.env)) (backToKw pos (keywordEach kws X.env))) := by rfl) :
    PE X (.Call (.Attribute o m apos) (e :: es) kws pos) (tMethN C m n ks.length sp gV E ta t tk) := by
  refine ⟨fun pins s σ H Q I h => ?_⟩
  refine PySem.W.methodCall_KW (pl := pl) (thn (he.run pins s σ H _ I h) fun u s1 ⟨x, H1, I1, rx, a, dx, fs, ex, ea, l, q⟩ => ?_) ht
  subst ex
  obtain rfl : u = Value.ref a := rx
  refine getmeth_ok I1 ea c hm l ?_
  refine PySem.W.callWith_KW (first := [.ref a]) (h₀ := X.base) I.ok.mod.kin hm.kp hall (thn (ha.run pos pins s1 σ H1 _ I1 q) fun us s2 ⟨vs, H2, I2, r, q2⟩ => ?_) hpl hst
  refine thn (hkw.run pos pins s2 σ H2 _ I2 q2) fun ws s3 ⟨zs, H3, I3, rz, l1, l2, q3⟩ => ⟨I3.kIn, ?_⟩
  rw [hks]
  exact run_fnN (us := .ref a :: us) (vs := .ref a :: vs) F hr hb hx I3 (.cons rfl r) rz (by rw [List.length_cons, l1]) l2 q3
/-- f(k = v, ..) -/
theorem pe_callN0 {E : XK} (F : FnOk X.prog X.w X.K X.mg X.base CX k f fd ps sp) (hr : Room k X.A) (hg : Gl X x) (hm : X.mg x = some (.ref f)) (hk : PySem.W.keepIn X.K (.ref f) = true) (hb : KBn X.K fd ps 0 ks g gV) (hx : Passes CX X E) (hkw : PK X kws tk)
    (hall : (backToKw pos (keywordEach kws X.env)).all (·.1.isSome) = true := by rfl) (hks : (backToKw pos (keywordEach kws X.env)).filterMap (·.1) = ks := by rfl)
    (hdb : (x == ("__debug__" : Str)) = false := by decide)
    (hpl : ((backTo pos (starEach [] X.env)).any (·.1) || (backToKw pos (keywordEach kws X.env)).any (·.1.isNone)) = false := by rfl) :
    PE X (.Call (.Name x p) [] kws pos) (tCallN 0 ks.length sp gV E tNil tk) := by
  refine ⟨fun pins s σ H Q I h => ?_⟩
  refine wpAny_Call_Name_kw (ld_glob I hg hm ?_ hdb)
  refine PySem.W.callWith_KW0 (h₀ := X.base) I.ok.mod.kin hk hall ?_ hpl
  refine thn (hkw.run pos pins s σ H _ I h) fun ws s2 ⟨zs, H2, I2, rz, l1, l2, q2⟩ => ⟨I2.kIn, ?_⟩
  rw [hks]
  exact run_fnN (us := []) (vs := []) F hr hb hx I2 .nil rz rfl l2 q2
end
section
variable {K : PySem.W.Frag} {σ : St} {H : Hp} {Q : VK} {ta : TE} {t tk : TA} {v : V}
theorem w_methSx0 {C : Addr} {m : Str} {sp : Sp} {E : St → XK} (q : ta σ H fun x H1 => ∃ a dx fs, x = .ref a ∧ H1 a = some (.ins C dx fs) ∧ fs.lookup m = none ∧ t σ H1 fun vs H2 => sp (x :: vs) H2 Q (E σ)) : tMethSx C m sp E ta t σ H Q := q
theorem w_methN0 {C : Addr} {m : Str} {j l : Nat} {sp : Sp} {gV : List V → List V → List V} {E : XK} (q : ta σ H fun x H1 => ∃ a dx fs, x = .ref a ∧ H1 a = some (.ins C dx fs) ∧ fs.lookup m = none ∧ t σ H1 fun vs H2 => tk σ H2 fun zs H3 => vs.length = j ∧ zs.length = l ∧ sp (gV (x :: vs) zs) H3 Q E) : tMethN C m j l sp gV E ta t tk σ H Q := q
theorem w_callN {j l : Nat} {sp : Sp} {gV : List V → List V → List V} {E : XK} (q : t σ H fun vs H1 => tk σ H1 fun zs H2 => vs.length = j ∧ zs.length = l ∧ sp (gV vs zs) H2 Q E) : tCallN j l sp gV E t tk σ H Q := q
theorem w_callS {sp : Sp} {E : St → XK} (q : t σ H fun vs H1 => sp vs H1 Q (E σ)) : tCallS sp E t σ H Q := q
theorem w_rfl {α : Type} {x : α} {R : Prop} (q : R) : x = x ∧ R := ⟨rfl, q⟩
theorem w_ea {σ2 : L2.St} {vs : List Nat} {R : Prop} (h : wipe σ2 vs = wipe σ vs) (q : R) : wipe σ2 vs = wipe σ vs ∧ R := ⟨h, q⟩
theorem w_ln {α : Type} {xs : List α} {n : Nat} {R : Prop} (h : xs.length = n) (q : R) : xs.length = n ∧ R := ⟨h, q⟩
theorem w_yes {Q : Bool → Hp → Prop} (q : Q true H) : tYes σ H Q := q
end
theorem iteNT {A B : Prop} (h : B) : if (!true) = true then A else B := h
theorem iteNF {A B : Prop} (h : A) : if (!false) = true then A else B := h
/-! ### comprehensions without tests: each item gives a known value -/
section
variable {K : PySem.W.Frag} {σ : L2.St} {H : Hp} {Q : VK} {g : TG} {te tl : TE} {l : Addr} {xs ys : List V} {vs : List Nat}
theorem w_lc0L (q : tl σ H fun x H1 => ∃ a, x = .ref a ∧ (∃ xs, SqL K H1 a xs) ∧ ∀ D, H1 D = none → ∃ W : Nat → Nat → Hp → Prop, (∃ m, W 0 m (upd H1 D (.lst []))) ∧ ∀ i m H, W i m H →
      ((Itl K a).stop i H ∧ Q (.ref D) H) ∨ ((Itl K a).go i H ∧ ∃ Nx : Hp → Prop, (∀ H', Nx H' → ∃ m', m' < m ∧ W (i + 1) m' H') ∧ ∀ x H', (Itl K a).yld i H x H' → g x (wipe σ vs) H' fun σ2 H2 => wipe σ2 vs = wipe σ vs ∧ tYes σ2 H2 fun b H3 =>
        if b = true then te σ2 H3 fun y H4 => ∃ acc, H4 D = some (.lst acc) ∧ acc.length < sizeLine ∧ Nx (upd H4 D (.lst (acc ++ [y]))) else Nx H3)) : tLc (iList K tl) g tYes te vs σ H Q := q
theorem w_lc0T (q : tl σ H fun x H1 => ∃ a, x = .ref a ∧ (∃ xs, SqT K H1 a xs) ∧ ∀ D, H1 D = none → ∃ W : Nat → Nat → Hp → Prop, (∃ m, W 0 m (upd H1 D (.lst []))) ∧ ∀ i m H, W i m H →
      ((Itt K a).stop i H ∧ Q (.ref D) H) ∨ ((Itt K a).go i H ∧ ∃ Nx : Hp → Prop, (∀ H', Nx H' → ∃ m', m' < m ∧ W (i + 1) m' H') ∧ ∀ x H', (Itt K a).yld i H x H' → g x (wipe σ vs) H' fun σ2 H2 => wipe σ2 vs = wipe σ vs ∧ tYes σ2 H2 fun b H3 =>
        if b = true then te σ2 H3 fun y H4 => ∃ acc, H4 D = some (.lst acc) ∧ acc.length < sizeLine ∧ Nx (upd H4 D (.lst (acc ++ [y]))) else Nx H3)) : tLc (iTup K tl) g tYes te vs σ H Q := q
theorem lc_inv {f : Nat → V} {D : Addr} {H' : Hp} {i : Nat} (nD : H D = none) (s : Same H H') (hD : H' D = some (.lst ((List.range i).map f))) (v : V) (hv : v = f i) :
    Same H (upd H' D (.lst (((List.range i).map f) ++ [v]))) ∧ (upd H' D (.lst (((List.range i).map f) ++ [v]))) D = some (.lst ((List.range (i + 1)).map f)) := by
  refine ⟨same_updF s nD, ?_⟩
  rw [upd_same, List.range_succ, List.map_append, hv]
  rfl
/-- the i-th item gives f i; nothing that stood is changed -/
theorem w_lcL (f : Nat → V) (h : SqL K H l xs) (hz : xs.length ≤ 100000)
    (step : ∀ (i : Nat) (x : V) (H' : Hp) (R : VK) (S : Hp → Prop), xs[i]? = some x → Same H H' → (∀ H4, Same H' H4 → R (f i) H4) → g x (wipe σ vs) H' fun σ2 H2 => wipe σ2 vs = wipe σ vs ∧ tYes σ2 H2 fun b H3 => if b = true then te σ2 H3 R else S H3)
    (q : ∀ D H', Same H H' → H D = none → H' D = some (.lst ((List.range xs.length).map f)) → Q (.ref D) H') : ∃ a, V.ref l = .ref a ∧ (∃ xs, SqL K H a xs) ∧ ∀ D, H D = none → ∃ W : Nat → Nat → Hp → Prop, (∃ m, W 0 m (upd H D (.lst []))) ∧ ∀ i m H, W i m H →
      ((Itl K a).stop i H ∧ Q (.ref D) H) ∨ ((Itl K a).go i H ∧ ∃ Nx : Hp → Prop, (∀ H', Nx H' → ∃ m', m' < m ∧ W (i + 1) m' H') ∧ ∀ x H', (Itl K a).yld i H x H' → g x (wipe σ vs) H' fun σ2 H2 => wipe σ2 vs = wipe σ vs ∧ tYes σ2 H2 fun b H3 =>
        if b = true then te σ2 H3 fun y H4 => ∃ acc, H4 D = some (.lst acc) ∧ acc.length < sizeLine ∧ Nx (upd H4 D (.lst (acc ++ [y]))) else Nx H3) := by
  refine ⟨l, rfl, ⟨xs, h⟩, fun D nD => ?_⟩
  refine lc_list (K := K) (a := l) (xs := xs) (fun i H' => i ≤ xs.length ∧ Same H H' ∧ H' D = some (.lst ((List.range i).map f))) ⟨Nat.zero_le _, same_new nD, upd_same⟩ (fun i H' _ p => p.2.1.seq h) (fun i x H' hx p => ?_) (fun H' p => q D H' p.2.1 nD p.2.2)
  have hi : i < xs.length := (List.getElem?_eq_some_iff.mp hx).1
  refine step i x H' _ _ hx p.2.1 fun H4 s4 => ?_
  have hD4 := s4 _ _ p.2.2
  refine ⟨_, hD4, ?_, hi, lc_inv nD (p.2.1.trans s4) hD4 _ rfl⟩
  rw [List.length_map, List.length_range]
  exact Nat.lt_of_lt_of_le (Nat.lt_of_lt_of_le hi hz) (by decide)
theorem w_lcT (f : Nat → V) (h : SqT K H l xs) (hz : xs.length ≤ 100000) (hs : ∀ H', Same H H' → SqT K H' l xs)
    (step : ∀ (i : Nat) (x : V) (H' : Hp) (R : VK) (S : Hp → Prop), xs[i]? = some x → Same H H' → (∀ H4, Same H' H4 → R (f i) H4) → g x (wipe σ vs) H' fun σ2 H2 => wipe σ2 vs = wipe σ vs ∧ tYes σ2 H2 fun b H3 => if b = true then te σ2 H3 R else S H3)
    (q : ∀ D H', Same H H' → H D = none → H' D = some (.lst ((List.range xs.length).map f)) → Q (.ref D) H') : ∃ a, V.ref l = .ref a ∧ (∃ xs, SqT K H a xs) ∧ ∀ D, H D = none → ∃ W : Nat → Nat → Hp → Prop, (∃ m, W 0 m (upd H D (.lst []))) ∧ ∀ i m H, W i m H →
      ((Itt K a).stop i H ∧ Q (.ref D) H) ∨ ((Itt K a).go i H ∧ ∃ Nx : Hp → Prop, (∀ H', Nx H' → ∃ m', m' < m ∧ W (i + 1) m' H') ∧ ∀ x H', (Itt K a).yld i H x H' → g x (wipe σ vs) H' fun σ2 H2 => wipe σ2 vs = wipe σ vs ∧ tYes σ2 H2 fun b H3 =>
        if b = true then te σ2 H3 fun y H4 => ∃ acc, H4 D = some (.lst acc) ∧ acc.length < sizeLine ∧ Nx (upd H4 D (.lst (acc ++ [y]))) else Nx H3) := by
  refine ⟨l, rfl, ⟨xs, h⟩, fun D nD => ?_⟩
  refine lc_tup (K := K) (a := l) (xs := xs) (fun i H' => i ≤ xs.length ∧ Same H H' ∧ H' D = some (.lst ((List.range i).map f))) ⟨Nat.zero_le _, same_new nD, upd_same⟩ (fun i H' _ p => hs _ p.2.1) (fun i x H' hx p => ?_) (fun H' p => q D H' p.2.1 nD p.2.2)
  have hi : i < xs.length := (List.getElem?_eq_some_iff.mp hx).1
  refine step i x H' _ _ hx p.2.1 fun H4 s4 => ?_
  have hD4 := s4 _ _ p.2.2
  refine ⟨_, hD4, ?_, hi, lc_inv nD (p.2.1.trans s4) hD4 _ rfl⟩
  rw [List.length_map, List.length_range]
  exact Nat.lt_of_lt_of_le (Nat.lt_of_lt_of_le hi hz) (by decide)
theorem lc_L (f : Nat → V) (htl : ∀ R : VK, R (.ref l) H → tl σ H R) (h : SqL K H l xs) (hz : xs.length ≤ 100000)
    (step : ∀ (i : Nat) (x : V) (H' : Hp) (R : VK) (S : Hp → Prop), xs[i]? = some x → Same H H' → (∀ H4, Same H' H4 → R (f i) H4) → g x (wipe σ vs) H' fun σ2 H2 => wipe σ2 vs = wipe σ vs ∧ tYes σ2 H2 fun b H3 => if b = true then te σ2 H3 R else S H3)
    (q : ∀ D H', Same H H' → H D = none → H' D = some (.lst ((List.range xs.length).map f)) → Q (.ref D) H') : tLc (iList K tl) g tYes te vs σ H Q := w_lc0L (htl _ (w_lcL f h hz step q))
theorem lc_T (f : Nat → V) (htl : ∀ R : VK, R (.ref l) H → tl σ H R) (h : SqT K H l xs) (hz : xs.length ≤ 100000) (hs : ∀ H', Same H H' → SqT K H' l xs)
    (step : ∀ (i : Nat) (x : V) (H' : Hp) (R : VK) (S : Hp → Prop), xs[i]? = some x → Same H H' → (∀ H4, Same H' H4 → R (f i) H4) → g x (wipe σ vs) H' fun σ2 H2 => wipe σ2 vs = wipe σ vs ∧ tYes σ2 H2 fun b H3 => if b = true then te σ2 H3 R else S H3)
    (q : ∀ D H', Same H H' → H D = none → H' D = some (.lst ((List.range xs.length).map f)) → Q (.ref D) H') : tLc (iTup K tl) g tYes te vs σ H Q := w_lc0T (htl _ (w_lcT f h hz hs step q))
theorem same_seqT {H H' : Hp} {a : Addr} {xs : List V} (e : Same H H') (h : SqT K H a xs) : SqT K H' a xs := by
  rcases h with (h | ⟨o, h⟩) | h
  · exact .inl (.inl (e _ _ h))
  · exact .inl (.inr ⟨o, e _ _ h⟩)
  · exact .inr h
end
theorem w_allTrue {K : PySem.W.Frag} {H : Hp} {Q : VK} {D : Addr} {n : Nat} (h : H D = some (.lst ((List.range n).map fun _ => V.bl true))) (q : Q (.bl true) H) : rAll K [.ref D] H Q := by
  refine ⟨D, (List.range n).map fun _ => true, rfl, SqL.of (by rw [List.map_map]; exact h), ?_⟩
  have e : ((List.range n).map fun _ => true).all id = true := by simp
  rw [e]
  exact q
/-! ### refusals -/
def spCore (K : PySem.W.Frag) : Sp := fun vs H Q _ => ∃ (x C : Addr) (v : V), vs = [.ref x, v] ∧ OexC K C ∧ PySem.W.findIn K (.ref C) "value" = some none ∧ H x = some (exo x C none) ∧
  ∀ dx, H dx = none → dx ≠ x → Q .non (upd (upd H dx (exd dx [("value", v)])) x (exo x C (some dx)))
theorem w_mko0 {C : Addr} {sp : Sp} {dvs : List V} {ta : TA} {σ : St} {H : Hp} {Q : XK} (q : ta σ H fun vs H1 => vs.length ≤ 1000 ∧ ∀ a, H1 a = none → sp (.ref a :: (vs ++ dvs)) (upd H1 a (exo a C none))
  (fun v H2 => v = .non ∧ ∃ (d : Addr) (fs : List (Str × V)), H2 a = some (exo a C (some d)) ∧ H2 d = some (exd d fs) ∧ H1 d = none ∧ Q (.ref C) (some d) (upd (del H2 a) d (.xd fs))) (fun _ _ _ => False)) : tMkO C sp dvs ta σ H Q := q
theorem w_core {K : PySem.W.Frag} {C : Addr} {v : V} {H : Hp} {Q : XK} (hC : OexC K C) (hn : PySem.W.findIn K (.ref C) "value" = some none)
    (q : ∀ d H', Same H H' → H d = none → H' d = some (.xd [("value", v)]) → Q (.ref C) (some d) H') :
    [v].length ≤ 1000 ∧ ∀ a, H a = none → spCore K (.ref a :: ([v] ++ [])) (upd H a (exo a C none))
      (fun v H2 => v = .non ∧ ∃ (d : Addr) (fs : List (Str × V)), H2 a = some (exo a C (some d)) ∧ H2 d = some (exd d fs) ∧ H d = none ∧ Q (.ref C) (some d) (upd (del H2 a) d (.xd fs))) (fun _ _ _ => False) := by
  refine ⟨by show 1 ≤ 1000; decide, fun x nx => ⟨x, C, v, rfl, hC, hn, upd_same, fun dx ndx hne => ⟨rfl, dx, _, upd_same, (upd_ne hne).trans upd_same, ?_, q dx _ ?_ ?_ upd_same⟩⟩⟩
  · rw [upd_ne hne] at ndx
    exact ndx
  · intro b o e
    have hb : b ≠ x := ne_of_none e nx
    have hd : b ≠ dx := by
      intro z
      rw [z] at e
      rw [upd_ne hne, e] at ndx
      cases ndx
    rw [upd_ne hd, del_ne hb, upd_ne hb, upd_ne hd, upd_ne hb]
    exact e
  · rw [upd_ne hne] at ndx
    exact ndx
theorem map_get {ns : List Int} {i : Nat} {x : V} (h : (ns.map V.int)[i]? = some x) : ∃ n, n ∈ ns ∧ x = .int n := by
  rw [List.getElem?_map] at h
  cases e : ns[i]? with
  | none => rw [e] at h; cases h
  | some n =>
    rw [e] at h
    exact ⟨n, List.mem_of_getElem? e, (Option.some.inj h).symm⟩
/-! ### loops -/
section
variable {K : PySem.W.Frag} {σ : L2.St} {H : Hp} {g : TG} {tb : TS} {nx bk ct : L2.St → Hp → Prop} {rt : VK} {ta : TA} {tl : TE}
def kR1 (g : TG) (tb : TS) (D : Ends) (σ : L2.St) (vs : List V) (H : Hp) : Prop := ∃ j : Int, vs = [.int j] ∧ -(2 ^ 62) ≤ j ∧ j < 2 ^ 62 ∧ ∃ W : Nat → Nat → L2.St → Hp → Prop, (∃ m, W 0 m σ H) ∧ ∀ i m σ H, W i m σ H →
  ((Itr 0 j.toNat).stop i H ∧ D.nx σ H) ∨ ((Itr 0 j.toNat).go i H ∧ ∃ N : L2.St → Hp → Prop, (∀ σ' H', N σ' H' → ∃ m', m' < m ∧ W (i + 1) m' σ' H') ∧ ∀ x H', (Itr 0 j.toNat).yld i H x H' → g x σ H' fun σ2 H2 => tb { D with nx := N, ct := N, bk := D.nx } σ2 H2)
theorem w_forR1 (q : ta σ H fun vs H1 => kR1 g tb ⟨nx, rt, bk, ct⟩ σ vs H1) : tFor (iRng1 ta) g tb ⟨nx, rt, bk, ct⟩ σ H := q
theorem w_range1 {j : Int} (Pv : Nat → L2.St → Hp → Prop) (hj : -100000000 ≤ j ∧ j < 100000000) (h0 : Pv 0 σ H)
    (hs : ∀ (i : Nat) σ' H', (i : Int) < j → Pv i σ' H' → g (.int i) σ' H' fun σ2 H2 => tb ⟨Pv (i + 1), rt, nx, Pv (i + 1)⟩ σ2 H2) (hd : ∀ σ' H', Pv j.toNat σ' H' → nx σ' H') : kR1 g tb ⟨nx, rt, bk, ct⟩ σ [.int j] H := by
  refine ⟨j, rfl, by omega, by omega, for_range (lo := 0) (n := j.toNat) (D := ⟨nx, rt, bk, ct⟩) Pv h0 (fun i σ' H' hi p => ?_) hd⟩
  have e : (0 : Int) + (i : Int) = i := by omega
  rw [e]
  exact hs i σ' H' (by omega) p
def kFL (K : PySem.W.Frag) (g : TG) (tb : TS) (D : Ends) (σ : L2.St) (x : V) (H : Hp) : Prop := ∃ a, x = .ref a ∧ (∃ xs, SqL K H a xs) ∧ ∃ W : Nat → Nat → L2.St → Hp → Prop, (∃ m, W 0 m σ H) ∧ ∀ i m σ H, W i m σ H →
  ((Itl K a).stop i H ∧ D.nx σ H) ∨ ((Itl K a).go i H ∧ ∃ N : L2.St → Hp → Prop, (∀ σ' H', N σ' H' → ∃ m', m' < m ∧ W (i + 1) m' σ' H') ∧ ∀ x H', (Itl K a).yld i H x H' → g x σ H' fun σ2 H2 => tb { D with nx := N, ct := N, bk := D.nx } σ2 H2)
theorem w_forL (q : tl σ H fun x H1 => kFL K g tb ⟨nx, rt, bk, ct⟩ σ x H1) : tFor (iList K tl) g tb ⟨nx, rt, bk, ct⟩ σ H := q
theorem w_list {a : Addr} {xs : List V} (Pv : Nat → L2.St → Hp → Prop) (h : SqL K H a xs) (h0 : Pv 0 σ H) (hl : ∀ i σ' H', i ≤ xs.length → Pv i σ' H' → SqL K H' a xs)
    (hs : ∀ (i : Nat) x σ' H', xs[i]? = some x → Pv i σ' H' → g x σ' H' fun σ2 H2 => tb ⟨Pv (i + 1), rt, nx, Pv (i + 1)⟩ σ2 H2) (hd : ∀ σ' H', Pv xs.length σ' H' → nx σ' H') : kFL K g tb ⟨nx, rt, bk, ct⟩ σ (.ref a) H :=
  ⟨a, rfl, ⟨xs, h⟩, for_list (D := ⟨nx, rt, bk, ct⟩) Pv h0 hl hs hd⟩
def kFT (K : PySem.W.Frag) (g : TG) (tb : TS) (D : Ends) (σ : L2.St) (x : V) (H : Hp) : Prop := ∃ a, x = .ref a ∧ (∃ xs, SqT K H a xs) ∧ ∃ W : Nat → Nat → L2.St → Hp → Prop, (∃ m, W 0 m σ H) ∧ ∀ i m σ H, W i m σ H →
  ((Itt K a).stop i H ∧ D.nx σ H) ∨ ((Itt K a).go i H ∧ ∃ N : L2.St → Hp → Prop, (∀ σ' H', N σ' H' → ∃ m', m' < m ∧ W (i + 1) m' σ' H') ∧ ∀ x H', (Itt K a).yld i H x H' → g x σ H' fun σ2 H2 => tb { D with nx := N, ct := N, bk := D.nx } σ2 H2)
theorem w_forT (q : tl σ H fun x H1 => kFT K g tb ⟨nx, rt, bk, ct⟩ σ x H1) : tFor (iTup K tl) g tb ⟨nx, rt, bk, ct⟩ σ H := q
theorem w_tupl {a : Addr} {xs : List V} (Pv : Nat → L2.St → Hp → Prop) (h : SqT K H a xs) (h0 : Pv 0 σ H) (hl : ∀ i σ' H', i ≤ xs.length → Pv i σ' H' → SqT K H' a xs)
    (hs : ∀ (i : Nat) x σ' H', xs[i]? = some x → Pv i σ' H' → g x σ' H' fun σ2 H2 => tb ⟨Pv (i + 1), rt, nx, Pv (i + 1)⟩ σ2 H2) (hd : ∀ σ' H', Pv xs.length σ' H' → nx σ' H') : kFT K g tb ⟨nx, rt, bk, ct⟩ σ (.ref a) H :=
  ⟨a, rfl, ⟨xs, h⟩, for_tup (D := ⟨nx, rt, bk, ct⟩) Pv h0 hl hs hd⟩
/-- a comprehension by an invariant over its turns -/
theorem lcI_L {Q : VK} {te : TE} {l : Addr} {xs : List V} {vs : List Nat} (Pv : Addr → Nat → Hp → Prop) (htl : ∀ R : VK, R (.ref l) H → tl σ H R) (h : SqL K H l xs) (h0 : ∀ D, H D = none → Pv D 0 (upd H D (.lst []))) (hl : ∀ D i H', i ≤ xs.length → Pv D i H' → SqL K H' l xs)
    (step : ∀ D (i : Nat) (x : V) (H' : Hp) (R : VK) (S : Hp → Prop), H D = none → xs[i]? = some x → Pv D i H' → (∀ y H4 acc, H4 D = some (.lst acc) → acc.length ≤ 100000 → Pv D (i + 1) (upd H4 D (.lst (acc ++ [y]))) → R y H4) → g x (wipe σ vs) H' fun σ2 H2 => wipe σ2 vs = wipe σ vs ∧ tYes σ2 H2 fun b H3 => if b = true then te σ2 H3 R else S H3)
    (q : ∀ D H', H D = none → Pv D xs.length H' → Q (.ref D) H') : tLc (iList K tl) g tYes te vs σ H Q := by
  refine w_lc0L (htl _ ⟨l, rfl, ⟨xs, h⟩, fun D nD => ?_⟩)
  refine lc_list (K := K) (a := l) (xs := xs) (fun i H' => Pv D i H') (h0 D nD) (fun i H' hi p => hl D i H' hi p) (fun i x H' hx p => ?_) (fun H' p => q D H' nD p)
  exact step D i x H' _ _ nD hx p fun y H4 acc e z p4 => ⟨acc, e, Nat.lt_of_le_of_lt z (by decide), p4⟩
end
section
variable {K : PySem.W.Frag} {σ : L2.St} {H H' G : Hp} {Q : VK} {to : TE} {t : TA} {p q x : Addr}
theorem w_bm {T : String} {r : V → List V → Hp → VK → Prop} (h : to σ H fun x H1 => tyV K T x H1 ∧ t σ H1 fun xs H2 => r x xs H2 Q) : tBM K T r to t σ H Q := h
theorem w_bm0 {T : String} {r : V → List V → Hp → VK → Prop} (h : to σ H fun x H1 => tyV K T x H1 ∧ r x [] H1 Q) : tBM0 K T r to σ H Q := h
theorem w_tyL {a : Addr} {xs : List V} {R : Prop} (h : SqL K H a xs) (q : R) : tyV K "list" (.ref a) H ∧ R := ⟨.inl ⟨rfl, xs, h⟩, q⟩
theorem w_app {l : Addr} {xs : List V} {y : V} (h : H l = some (.lst xs)) (hz : xs.length ≤ 100000) (q : Q .non (upd H l (.lst (xs ++ [y])))) : rAppend (.ref l) [y] H Q := ⟨l, xs, y, rfl, rfl, h, Nat.lt_of_le_of_lt hz (by decide), q⟩
theorem w_cat {l b : Addr} {xs zs : List V} (h1 : H l = some (.lst xs)) (h2 : H b = some (.lst zs)) (hz : xs.length + zs.length ≤ 100000) (q : ∀ p, H p = none → Q (.ref p) (upd H p (.lst (xs ++ zs)))) : rCat (.ref l) (.ref b) H Q := ⟨l, b, xs, zs, rfl, rfl, h1, h2, Nat.le_trans hz (by decide), q⟩
theorem ixN_of {n : Nat} {d : Int} (h0 : 0 ≤ d) (h1 : d < n) : ixN n d = some d.toNat := by
  unfold ixN
  rw [if_pos h0, if_pos h1]
theorem nodup_ne {α : Type} {l : List α} (nd : l.Nodup) {i j : Nat} {a b : α} (hi : l[i]? = some a) (hj : l[j]? = some b) (h : i ≠ j) : a ≠ b := by
  obtain ⟨h1, rfl⟩ := List.getElem?_eq_some_iff.mp hi
  obtain ⟨h2, rfl⟩ := List.getElem?_eq_some_iff.mp hj
  have z := List.pairwise_iff_getElem.mp nd
  rcases Nat.lt_or_gt_of_ne h with q | q
  · exact z i j h1 h2 q
  · exact (z j i h2 h1 q).symm
/-- G: what is never changed; it stays through a change at p, if p is none of it -/
theorem sub_chg (s : Same G H) (n : G p = none) (c : Chg p H H') : Same G H' := fun b o e => c b o (s b o e) (ne_of_none e n)
theorem sub_upd {o : HO} (s : Same G H) (n : G p = none) : Same G (upd H p o) := fun b u e => by
  rw [upd_ne (ne_of_none e n)]
  exact s b u e
/-- G grows by what stands in H -/
theorem sub_grow {o : HO} (s : Same G H) (h : H p = some o) : Same (upd G p o) H := fun b u e => by
  by_cases z : b = p
  · subst z
    rw [upd_same] at e
    rw [← e]
    exact h
  · rw [upd_ne z] at e
    exact s b u e
theorem same_grow {o : HO} (n : G p = none) : Same G (upd G p o) := same_new n
theorem none_upd {o : HO} (h : G q = none) (n : q ≠ p) : upd G p o q = none := by rw [upd_ne n]; exact h
/-- G: H without the places of bs -/
def cutH (H : Hp) (bs : List Addr) : Hp := fun b => if b ∈ bs then none else H b
theorem cut_none {bs : List Addr} (h : p ∈ bs) : cutH H bs p = none := if_pos h
theorem cut_some {bs : List Addr} (h : p ∉ bs) : cutH H bs p = H p := if_neg h
theorem cut_same {bs : List Addr} : Same (cutH H bs) H := fun b o e => by
  by_cases h : b ∈ bs
  · rw [cut_none h] at e; cases e
  · rw [cut_some h] at e; exact e
end
section
variable {K : PySem.W.Frag} {σ : L2.St} {H : Hp} {Q : VK} {ta tb tc te : TE} {tl th : TO} {xs : List V}
theorem w_slT {a : Addr} {lo hi : Option Int} (h : SqT K H a xs) (hw : ¬ (HT.sIx xs.length 0 lo = 0 ∧ HT.sIx xs.length xs.length hi = xs.length)) (q : ∀ p, H p = none → Q (.ref p) (upd H p (.tup (cutV xs lo hi)))) : rSlT K (.ref a) lo hi H Q := ⟨a, xs, rfl, h, hw, q⟩
theorem w_inL {neg : Bool} {a : Addr} {x : V} (h : SqL K H a xs) (h1 : flatV x = true) (h2 : xs.all flatV = true) (q : Q (.bl (if neg then !inV x xs else inV x xs)) H) : rIn K neg x (.ref a) H Q := ⟨a, xs, rfl, .inl h, h1, h2, q⟩
theorem w_inT {neg : Bool} {a : Addr} {x : V} (h : SqT K H a xs) (h1 : flatV x = true) (h2 : xs.all flatV = true) (q : Q (.bl (if neg then !inV x xs else inV x xs)) H) : rIn K neg x (.ref a) H Q := ⟨a, xs, rfl, .inr h, h1, h2, q⟩
theorem w_chain {r r' : R2} (q : ta σ H fun x H1 => tb σ H1 fun y H2 => r x y H2 fun z H3 => ∃ k, z = .bl k ∧ (if k = true then tc σ H3 fun w' H4 => r' y w' H4 Q else Q (.bl false) H3)) : tChain r r' ta tb tc σ H Q := q
theorem w_sl {r : V → Option Int → Option Int → Hp → VK → Prop} (q : te σ H fun x H1 => tl σ H1 fun l H2 => th σ H2 fun u H3 => r x l u H3 Q) : tSl r te tl th σ H Q := q
theorem w_nopart {Q : Option Int → Hp → Prop} (q : Q none H) : tNoPart σ H Q := q
theorem w_part {Q : Option Int → Hp → Prop} (q : te σ H fun x H1 => ∃ i, x = .int i ∧ Q (some i) H1) : tPart te σ H Q := q
theorem w_ei {i : Int} {R : Int → Prop} (q : R i) : ∃ k, V.int i = .int k ∧ R k := ⟨i, rfl, q⟩
theorem w_slL {a : Addr} {lo hi : Option Int} (h : SqL K H a xs) (q : ∀ p, H p = none → Q (.ref p) (upd H p (.lst (cutV xs lo hi)))) : rSlL K (.ref a) lo hi H Q := ⟨a, xs, rfl, h, q⟩
def kRev (K : PySem.W.Frag) (Q : VK) (x : V) (H : Hp) : Prop := ∃ a xs, x = .ref a ∧ SqL K H a xs ∧ ∀ p, H p = none → Q (.ref p) (upd H p (.lst xs.reverse))
theorem w_rev0 (q : te σ H fun x H1 => kRev K Q x H1) : tRevL K te σ H Q := q
theorem w_rev {a : Addr} (h : SqL K H a xs) (q : ∀ p, H p = none → Q (.ref p) (upd H p (.lst xs.reverse))) : kRev K Q (.ref a) H := ⟨a, xs, rfl, h, q⟩
theorem w_rep {a : Addr} {k : Int} (h : H a = some (.lst xs)) (h1 : -100000 ≤ k) (h2 : k ≤ 100000) (hz : xs.length ≤ 100) (q : ∀ p, H p = none → Q (.ref p) (upd H p (.lst (List.replicate k.toNat xs).flatten))) : rRep (.ref a) (.int k) H Q :=
  ⟨a, k, xs, rfl, rfl, h, by omega, by omega, by
    have e : xs.length * k.toNat ≤ 100 * 100000 := Nat.mul_le_mul hz (by omega)
    exact Nat.le_trans e (by decide), q⟩
theorem sIx_int (n d : Nat) (i : Int) (h : 0 ≤ i) : HT.sIx n d (some i) = min i.toNat n := by
  obtain ⟨k, rfl⟩ : ∃ k : Nat, i = (k : Int) := ⟨i.toNat, by omega⟩
  rw [HT.sIx_nat]
  simp
theorem cut_to {j : Int} (h : 0 ≤ j) : cutV xs none (some j) = xs.take j.toNat := by
  unfold cutV
  rw [HT.sIx_none, sIx_int _ _ _ h]
  by_cases q : j.toNat ≤ xs.length
  · rw [Nat.min_eq_left q]; simp
  · rw [Nat.min_eq_right (by omega), List.take_of_length_le (by omega : xs.length ≤ j.toNat)]; simp
theorem cut_from {i : Int} (h : 0 ≤ i) : cutV xs (some i) none = xs.drop i.toNat := by
  unfold cutV
  rw [HT.sIx_none, sIx_int _ _ _ h]
  by_cases q : i.toNat ≤ xs.length
  · rw [Nat.min_eq_left q, List.take_of_length_le (by rw [List.length_drop]; omega)]
  · rw [Nat.min_eq_right (by omega)]
    simp [List.drop_eq_nil_of_le (by omega : xs.length ≤ i.toNat)]
theorem cut_mid {i j : Int} (h : 0 ≤ i) (hj : i ≤ j) : cutV xs (some i) (some j) = (xs.drop i.toNat).take (j.toNat - i.toNat) := by
  unfold cutV
  rw [sIx_int _ _ _ h, sIx_int _ _ _ (by omega)]
  by_cases q : i.toNat ≤ xs.length
  · rw [Nat.min_eq_left q]
    by_cases q2 : j.toNat ≤ xs.length
    · rw [Nat.min_eq_left q2]
    · rw [Nat.min_eq_right (by omega), List.take_of_length_le (by rw [List.length_drop]; omega), List.take_of_length_le (by rw [List.length_drop]; omega)]
  · rw [Nat.min_eq_right (by omega)]
    simp [List.drop_eq_nil_of_le (by omega : xs.length ≤ i.toNat)]
    exact .inr (by omega)
end
/-! ### comprehensions over a list of things, with tests: what is kept of each is known -/
theorem map_at {α : Type} {es : List α} {it : α → V} {i : Nat} {x : V} (h : (es.map it)[i]? = some x) : ∃ e, es[i]? = some e ∧ e ∈ es ∧ x = it e := by
  rw [List.getElem?_map] at h
  cases q : es[i]? with
  | none => rw [q] at h; cases h
  | some e =>
    rw [q] at h
    exact ⟨e, rfl, List.mem_of_getElem? q, (Option.some.inj h).symm⟩
section
variable {K : PySem.W.Frag} {σ : L2.St} {H : Hp} {Q : VK} {g : TG} {tt : TT} {te tl : TE} {l : Addr} {vs : List Nat}
theorem lcF_inv {α : Type} (es : List α) (it : α → V) (kp : α → Option V) (htl : ∀ R : VK, R (.ref l) H → tl σ H R) (h : SqL K H l (es.map it)) (hz : es.length ≤ 100000)
    (step : ∀ e, e ∈ es → ∀ (H' : Hp) (R : VK) (S : Hp → Prop), Same H H' → (∀ y, kp e = some y → ∀ H4, Same H' H4 → R y H4) → (kp e = none → ∀ H4, Same H' H4 → S H4) → g (it e) (wipe σ vs) H' fun σ2 H2 => wipe σ2 vs = wipe σ vs ∧ tt σ2 H2 fun b H3 => if b = true then te σ2 H3 R else S H3)
    (q : ∀ D H', Same H H' → H D = none → H' D = some (.lst (es.filterMap kp)) → Q (.ref D) H') : tLc (iList K tl) g tt te vs σ H Q := by
  refine htl _ ⟨l, rfl, ⟨_, h⟩, fun D nD => ?_⟩
  refine lc_list (K := K) (a := l) (xs := es.map it) (fun i H' => i ≤ es.length ∧ Same H H' ∧ H' D = some (.lst ((es.take i).filterMap kp))) ⟨Nat.zero_le _, same_new nD, upd_same⟩ (fun i H' _ p => p.2.1.seq h) (fun i x H' hx p => ?_) (fun H' p => q D H' p.2.1 nD (by
    have e := p.2.2
    rw [List.length_map, List.take_length] at e
    exact e))
  obtain ⟨e, he, hin, rfl⟩ := map_at hx
  have hi : i < es.length := (List.getElem?_eq_some_iff.mp he).1
  have et : es.take (i + 1) = es.take i ++ [e] := by rw [List.take_succ, he]; rfl
  have lz : ((es.take i).filterMap kp).length < sizeLine := by
    refine Nat.lt_of_le_of_lt (List.length_filterMap_le _ _) (Nat.lt_of_le_of_lt ?_ (by decide : 100000 < sizeLine))
    rw [List.length_take]
    omega
  refine step e hin H' _ _ p.2.1 (fun y hy H4 s4 => ⟨_, s4 _ _ p.2.2, lz, hi, same_updF (p.2.1.trans s4) nD, ?_⟩) fun hn H4 s4 => ⟨hi, p.2.1.trans s4, ?_⟩
  · rw [upd_same, et, List.filterMap_append]
    simp [hy]
  · rw [et, List.filterMap_append, s4 _ _ p.2.2]
    simp [hn]
theorem lcF_tup {α : Type} (es : List α) (it : α → V) (kp : α → Option V) (htl : ∀ R : VK, R (.ref l) H → tl σ H R) (h : SqT K H l (es.map it)) (hz : es.length ≤ 100000)
    (step : ∀ e, e ∈ es → ∀ (H' : Hp) (R : VK) (S : Hp → Prop), Same H H' → (∀ y, kp e = some y → ∀ H4, Same H' H4 → R y H4) → (kp e = none → ∀ H4, Same H' H4 → S H4) → g (it e) (wipe σ vs) H' fun σ2 H2 => wipe σ2 vs = wipe σ vs ∧ tt σ2 H2 fun b H3 => if b = true then te σ2 H3 R else S H3)
    (q : ∀ D H', Same H H' → H D = none → H' D = some (.lst (es.filterMap kp)) → Q (.ref D) H') : tLc (iTup K tl) g tt te vs σ H Q := by
  refine htl _ ⟨l, rfl, ⟨_, h⟩, fun D nD => ?_⟩
  refine lc_tup (K := K) (a := l) (xs := es.map it) (fun i H' => i ≤ es.length ∧ Same H H' ∧ H' D = some (.lst ((es.take i).filterMap kp))) ⟨Nat.zero_le _, same_new nD, upd_same⟩ (fun i H' _ p => same_seqT p.2.1 h) (fun i x H' hx p => ?_) (fun H' p => q D H' p.2.1 nD (by
    have e := p.2.2
    rw [List.length_map, List.take_length] at e
    exact e))
  obtain ⟨e, he, hin, rfl⟩ := map_at hx
  have hi : i < es.length := (List.getElem?_eq_some_iff.mp he).1
  have et : es.take (i + 1) = es.take i ++ [e] := by rw [List.take_succ, he]; rfl
  have lz : ((es.take i).filterMap kp).length < sizeLine := by
    refine Nat.lt_of_le_of_lt (List.length_filterMap_le _ _) (Nat.lt_of_le_of_lt ?_ (by decide : 100000 < sizeLine))
    rw [List.length_take]
    omega
  refine step e hin H' _ _ p.2.1 (fun y hy H4 s4 => ⟨_, s4 _ _ p.2.2, lz, hi, same_updF (p.2.1.trans s4) nD, ?_⟩) fun hn H4 s4 => ⟨hi, p.2.1.trans s4, ?_⟩
  · rw [upd_same, et, List.filterMap_append]
    simp [hy]
  · rw [et, List.filterMap_append, s4 _ _ p.2.2]
    simp [hn]
end
/-! ### refusals told -/
theorem w_only {K : PySem.W.Frag} {c : Value} {ts : Addr → Value → Option Addr → TS} {Wout : WX} {D : Ends} {σ : L2.St} {H : Hp} {cls : Value} {d : Option Addr} (h : PySem.W.exmOne K cls c = some true) (q : ∀ a, H a = none → ts a cls d D σ H) : wOnly K c ts Wout D cls d σ H :=
  ⟨true, h, fun _ => q, fun z => by cases z⟩
/-! ### lists of pairs of ints, compared -/
def pairD (q : Int × Int) : PyData := .tuple [.int q.1, .int q.2]
theorem pairs_lay : ∀ ps : List (Int × Int), PyData.canLayAll0 (ps.map pairD) = true
  | [] => rfl
  | q :: ps => by
    rw [List.map_cons]
    simp only [PyData.canLayAll0, pairs_lay ps, pairD, PyData.canLay0, Bool.and_self]
theorem pairs_depth : ∀ ps : List (Int × Int), PyData.depthAll (ps.map pairD) ≤ 3
  | [] => by simp [PyData.depthAll]
  | q :: ps => by
    have h := pairs_depth ps
    rw [List.map_cons]
    simp only [PyData.depthAll, pairD, PyData.depth] at h ⊢
    omega
theorem pairs_shaped (ps : List (Int × Int)) : SeqAt.shaped (.list (ps.map pairD)) = true := by
  unfold SeqAt.shaped
  have h := pairs_depth ps
  rw [Bool.and_eq_true]
  refine ⟨by rw [PyData.canLay0]; exact pairs_lay ps, decide_eq_true ?_⟩
  simp only [PyData.depth]
  omega
theorem pairs_eqv (ps : List (Int × Int)) : PyData.eqv (.list (ps.map pairD)) (.list (ps.map pairD)) = true := SeqAt.eqv_refl _ (by rw [PyData.canLay0]; exact pairs_lay ps)
theorem pairs_dp {K : PySem.W.Frag} {H : Hp} : ∀ {rs : List Addr} {ps : List (Int × Int)}, rs.length = ps.length → (∀ (i : Nat) (r : Addr) (m f : Int), rs[i]? = some r → ps[i]? = some (m, f) → H r = some (.tup [.int m, .int f])) → DpAll K H (rs.map V.ref) (ps.map pairD)
  | [], [], _, _ => .nil
  | [], _ :: _, h, _ => by cases h
  | _ :: _, [], h, _ => by cases h
  | r :: rs, (m, f) :: ps, h, k => by
    rw [List.map_cons, List.map_cons]
    exact .cons (.tup (SqT.of (k 0 r m f rfl rfl)) (.cons (.int m) (.cons (.int f) .nil))) (pairs_dp (Nat.succ.inj h) fun i r m f a b => k (i + 1) r m f a b)
theorem w_neD {K : PySem.W.Frag} {H : Hp} {Q : VK} {x y : V} (d : PyData) (h1 : Dp K H x d) (h2 : Dp K H y d) (hs : SeqAt.shaped d = true) (he : PyData.eqv d d = true) (q : Q (.bl false) H) : rNeD K x y H Q := ⟨d, d, h1, h2, hs, hs, by rw [he]; exact q⟩
theorem w_eqD {K : PySem.W.Frag} {H : Hp} {Q : VK} {x y : V} (d : PyData) (h1 : Dp K H x d) (h2 : Dp K H y d) (hs : SeqAt.shaped d = true) (he : PyData.eqv d d = true) (q : Q (.bl true) H) : rEqD K x y H Q := ⟨d, d, h1, h2, hs, hs, by rw [he]; exact q⟩
/-! ### list(range(..)), tuple(range(..)) -/
section
variable {σ : L2.St} {H : Hp} {Q : VK} {ta tb : TE} {te : L2.St → Hp → (Int → Int → Hp → Prop) → Prop}
theorem w_lstRg (q : te σ H fun a b H1 => RgOk a b ∧ ∀ q, H1 q = none → Q (.ref q) (upd H1 q (.lst (rgV a b)))) : tLstRg te σ H Q := q
theorem w_tupRg (q : te σ H fun a b H1 => RgOk a b ∧ ∀ q, H1 q = none → Q (.ref q) (upd H1 q (.tup (rgV a b)))) : tTupRg te σ H Q := q
theorem w_rg1 {Q : Int → Int → Hp → Prop} (q : ta σ H fun x H1 => ∃ n, x = .int n ∧ Q 0 n H1) : tRg1 ta σ H Q := q
theorem w_rg2 {Q : Int → Int → Hp → Prop} (q : ta σ H fun x H1 => tb σ H1 fun y H2 => ∃ i j, x = .int i ∧ y = .int j ∧ Q i j H2) : tRg2 ta tb σ H Q := q
theorem w_eij {i j : Int} {R : Int → Int → Prop} (q : R i j) : ∃ k l, V.int i = .int k ∧ V.int j = .int l ∧ R k l := ⟨i, j, rfl, rfl, q⟩
theorem w_rgok {a b : Int} {R : Prop} (h : 0 ≤ a ∧ b ≤ 16777216 ∧ a ≤ 16777216 ∧ 0 ≤ b) (q : R) : RgOk a b ∧ R := ⟨RgOk.of_le h.1 h.2.1 h.2.2.1 h.2.2.2, q⟩
end
/-! ### values as data: laid, not deep, told apart by == -/
structure DtOk {α : Type} [DecidableEq α] (d : α → PyData) (n : Nat) : Prop where
  lay : ∀ x, (d x).canLay0 = true
  dep : ∀ x, (d x).depth ≤ n
  eqv : ∀ x y, PyData.eqv (d x) (d y) = decide (x = y)
  non : ∀ x, PyData.eqv .none (d x) = false ∧ PyData.eqv (d x) .none = false
section
variable {α β : Type} [DecidableEq α] [DecidableEq β] {d : α → PyData} {n : Nat} {K : PySem.W.Frag} {H : Hp} {Q : VK}
theorem DtOk.int : DtOk PyData.int 0 := ⟨fun x => by rw [PyData.canLay0], fun x => by simp [PyData.depth], fun x y => by
  simp only [PyData.eqv]
  by_cases h : x = y
  · subst h; simp
  · rw [decide_eq_false h]; simpa using h, fun x => by simp [PyData.eqv]⟩
theorem DtOk.layAll (h : DtOk d n) : ∀ xs : List α, PyData.canLayAll0 (xs.map d) = true
  | [] => rfl
  | x :: xs => by
    rw [List.map_cons]
    simp only [PyData.canLayAll0, h.lay x, h.layAll xs, Bool.and_self]
theorem DtOk.depAll (h : DtOk d n) : ∀ xs : List α, PyData.depthAll (xs.map d) ≤ n
  | [] => by simp [PyData.depthAll]
  | x :: xs => by
    have h1 := h.depAll xs
    have h2 := h.dep x
    rw [List.map_cons]
    simp only [PyData.depthAll] at h1 ⊢
    omega
theorem DtOk.eqvAll (h : DtOk d n) : ∀ xs ys : List α, PyData.eqvAll (xs.map d) (ys.map d) = decide (xs = ys)
  | [], [] => by simp [PyData.eqvAll]
  | [], y :: ys => by simp [PyData.eqvAll]
  | x :: xs, [] => by simp [PyData.eqvAll]
  | x :: xs, y :: ys => by
    rw [List.map_cons, List.map_cons]
    simp only [PyData.eqvAll, h.eqv x y, h.eqvAll xs ys]
    by_cases e : x = y <;> by_cases e2 : xs = ys <;> simp [e, e2]
theorem DtOk.list (h : DtOk d n) : DtOk (fun xs : List α => .list (xs.map d)) (n + 1) := ⟨fun xs => by rw [PyData.canLay0]; exact h.layAll xs, fun xs => by
  have := h.depAll xs
  simp only [PyData.depth]
  omega, fun xs ys => by rw [PyData.eqv]; exact h.eqvAll xs ys, fun x => by simp [PyData.eqv]⟩
theorem DtOk.tuple (h : DtOk d n) : DtOk (fun xs : List α => .tuple (xs.map d)) (n + 1) := ⟨fun xs => by rw [PyData.canLay0]; exact h.layAll xs, fun xs => by
  have := h.depAll xs
  simp only [PyData.depth]
  omega, fun xs ys => by rw [PyData.eqv]; exact h.eqvAll xs ys, fun x => by simp [PyData.eqv]⟩
/-- told apart by what they are made of -/
theorem DtOk.of {f : β → α} (h : DtOk d n) (hf : ∀ x y, f x = f y → x = y) : DtOk (fun x => d (f x)) n := ⟨fun x => h.lay _, fun x => h.dep _, fun x y => by
  rw [h.eqv]
  by_cases e : x = y
  · subst e; simp
  · rw [decide_eq_false e, decide_eq_false (fun z => e (hf _ _ z))], fun x => h.non _⟩
def optD (d : α → PyData) : Option α → PyData
  | none => .none
  | some x => d x
theorem DtOk.opt (h : DtOk d n) : ∀ x y : Option α, (optD d x).canLay0 = true ∧ (optD d x).depth ≤ n ∧ PyData.eqv (optD d x) (optD d y) = decide (x = y)
  | none, none => ⟨by simp only [optD]; rw [PyData.canLay0], by simp [optD, PyData.depth], by simp [optD, PyData.eqv]⟩
  | none, some y => ⟨by simp only [optD]; rw [PyData.canLay0], by simp [optD, PyData.depth], by simp [optD, (h.non y).1]⟩
  | some x, none => ⟨h.lay x, h.dep x, by simp [optD, (h.non x).2]⟩
  | some x, some y => ⟨h.lay x, h.dep x, by simp [optD, h.eqv]⟩
theorem shaped_of {e : PyData} (h : e.canLay0 = true) (h2 : e.depth ≤ n) (hn : n ≤ 64) : SeqAt.shaped e = true := by
  unfold SeqAt.shaped
  rw [Bool.and_eq_true]
  exact ⟨h, decide_eq_true (Nat.le_trans h2 hn)⟩
theorem w_eqDt (h : DtOk d n) {x y : V} {a b : α} (h1 : Dp K H x (d a)) (h2 : Dp K H y (d b)) (q : Q (.bl (decide (a = b))) H) (hn : n ≤ 64 := by decide) : rEqD K x y H Q :=
  ⟨d a, d b, h1, h2, shaped_of (h.lay a) (h.dep a) hn, shaped_of (h.lay b) (h.dep b) hn, by rw [h.eqv]; exact q⟩
theorem w_neDt (h : DtOk d n) {x y : V} {a b : α} (h1 : Dp K H x (d a)) (h2 : Dp K H y (d b)) (q : Q (.bl (!decide (a = b))) H) (hn : n ≤ 64 := by decide) : rNeD K x y H Q :=
  ⟨d a, d b, h1, h2, shaped_of (h.lay a) (h.dep a) hn, shaped_of (h.lay b) (h.dep b) hn, by rw [h.eqv]; exact q⟩
theorem w_eqDo (h : DtOk d n) {x y : V} {a b : Option α} (h1 : Dp K H x (optD d a)) (h2 : Dp K H y (optD d b)) (q : Q (.bl (decide (a = b))) H) (hn : n ≤ 64 := by decide) : rEqD K x y H Q :=
  ⟨_, _, h1, h2, shaped_of (h.opt a a).1 (h.opt a a).2.1 hn, shaped_of (h.opt b b).1 (h.opt b b).2.1 hn, by rw [(h.opt a b).2.2]; exact q⟩
theorem w_neDo (h : DtOk d n) {x y : V} {a b : Option α} (h1 : Dp K H x (optD d a)) (h2 : Dp K H y (optD d b)) (q : Q (.bl (!decide (a = b))) H) (hn : n ≤ 64 := by decide) : rNeD K x y H Q :=
  ⟨_, _, h1, h2, shaped_of (h.opt a a).1 (h.opt a a).2.1 hn, shaped_of (h.opt b b).1 (h.opt b b).2.1 hn, by rw [(h.opt a b).2.2]; exact q⟩
theorem dp_map {d : α → PyData} {it : α → V} : ∀ es : List α, (∀ e ∈ es, Dp K H (it e) (d e)) → DpAll K H (es.map it) (es.map d)
  | [], _ => .nil
  | e :: es, h => by
    rw [List.map_cons, List.map_cons]
    exact .cons (h e (List.mem_cons_self ..)) (dp_map es fun e' h' => h e' (List.mem_cons_of_mem _ h'))
theorem dp_mapE {α : Type} {d : α → PyData} {it : α → V} : ∀ es : List α, (∀ e ∈ es, Dp K H (it e) (d e)) → DpAll K H (es.map it) (es.map d)
  | [], _ => .nil
  | e :: es, h => by
    rw [List.map_cons, List.map_cons]
    exact .cons (h e (List.mem_cons_self ..)) (dp_mapE es fun e' h' => h e' (List.mem_cons_of_mem _ h'))
end
/-! ### 1. What values are -/
def isI : V → Bool
  | .int _ => true
  | _ => false
def cnt : V → Bool
  | .int n => decide (0 ≤ n)
  | _ => false
/-- its type is known, and says whether it is an int that is no bool -/
def KInt (K : PySem.W.Frag) (H : Hp) (v : V) (b : Bool) : Prop := ∃ (t : Value) (b1 b2 : Bool), TyX K H v t ∧ PySem.W.kitOne K t (.type "int") = some b1 ∧ (b1 = true → PySem.W.kitOne K t (.type "bool") = some b2) ∧ b = (b1 && !b2)
theorem kint_int {K : PySem.W.Frag} {H : Hp} (n : Int) : KInt K H (.int n) true :=
  ⟨.type "int", true, false, .base (.int n), kit_ty (by decide +kernel), fun _ => kit_ty (by decide +kernel), rfl⟩
def spInt (K : PySem.W.Frag) : Sp := fun vs H Q _ => ∃ (v : V) (b : Bool), vs = [v] ∧ KInt K H v b ∧ Q (.bl b) H
def spCount (K : PySem.W.Frag) : Sp := fun vs H Q _ => ∃ (v : V), vs = [v] ∧ KInt K H v (isI v) ∧ Q (.bl (cnt v)) H
def spList (K : PySem.W.Frag) : Sp := fun vs H Q _ => ∃ (v : V) (t : Value) (b : Bool), vs = [v] ∧ TyX K H v t ∧ PySem.W.kitAny K t [.type "list", .type "tuple"] = some b ∧ ∀ H', Same H H' → Q (.bl b) H'
/-- a pot: two numbers that are not negative, the second one small -/
def Pot (H : Hp) (p : Addr) : Prop := ∃ x y : Int, H p = some (.lst [.int x, .int y]) ∧ 0 ≤ x ∧ 0 ≤ y ∧ y < 4294967296
def spPot (K : PySem.W.Frag) : Sp := fun vs H Q _ => ∃ (s : Addr) (ns : List Int) (k : Int), vs = [.ref s, .int k] ∧ SqL K H s (ns.map V.int) ∧ 0 ≤ k ∧ k ≤ 1000 ∧
  ∀ p H', Same H H' → H p = none → Pot H' p → Q (.ref p) H'
def spDraw : Sp := fun vs H Q _ => ∃ (p : Addr) (n : Int), vs = [.ref p, .int n] ∧ Pot H p ∧ 0 < n ∧ n < 1000000000 ∧
  ∀ d H', Chg p H H' → Pot H' p → 0 ≤ d → d < n → Q (.int d) H'
def spPick (K : PySem.W.Frag) : Sp := fun vs H Q _ => ∃ (p s : Addr) (xs : List V), vs = [.ref p, .ref s] ∧ Pot H p ∧ SqL K H s xs ∧ s ≠ p ∧ (∀ H', Chg p H H' → SqL K H' s xs) ∧ 0 < xs.length ∧ xs.length < 1000000000 ∧
  ∀ v H', Chg p H H' → Pot H' p → v ∈ xs → Q v H'
theorem Pot.same {H H' : Hp} {p : Addr} (s : Same H H') : Pot H p → Pot H' p := fun ⟨x, y, h, r⟩ => ⟨x, y, s _ _ h, r⟩
theorem Pot.chg {H H' : Hp} {p q : Addr} (s : Chg q H H') (n : p ≠ q) : Pot H p → Pot H' p := fun ⟨x, y, h, r⟩ => ⟨x, y, s _ _ h n, r⟩
theorem Pot.upd {H : Hp} {p q : Addr} {o : HO} (n : p ≠ q) : Pot H p → Pot (L2.upd H q o) p := fun ⟨x, y, h, r⟩ => ⟨x, y, (upd_ne n).trans h, r⟩
theorem Pot.new {H : Hp} {p q : Addr} {o : HO} (n : H q = none) : Pot H p → Pot (L2.upd H q o) p := Pot.same (same_new n)
theorem Pot.ne {H : Hp} {p q : Addr} (n : H q = none) : Pot H p → p ≠ q := fun ⟨x, y, h, r⟩ => ne_of_none h n
theorem Pot.ntup {H : Hp} {p : Addr} : Pot H p → ∀ xs, H p ≠ some (.tup xs) := fun ⟨x, y, h, _⟩ xs z => by rw [h] at z; cases z
def due (ns : List Int) (i : Nat) (m : Int) : Int := if i < ns.length then ns.getD i 0 % m else 0
def spDue (K : PySem.W.Frag) : Sp := fun vs H Q _ => ∃ (s : Addr) (ns : List Int) (i : Nat) (m : Int), vs = [.ref s, .int i, .int m] ∧ SqL K H s (ns.map V.int) ∧ 0 < m ∧ Q (.int (due ns i m)) H
/-! ### 2. Whims -/
def fW (t : Addr) (n : Int) : List (Str × V) := [("own_numbers", V.ref t), ("own_taken", V.int n)]
/-- a Whims of the numbers ns stands at w, n were taken -/
def WhAt (C : Addr) (H : Hp) (w : Addr) (ns : List Int) (n : Nat) : Prop := ∃ dx t, H w = some (.ins C dx (fW t n)) ∧ H t = some (.tup (ns.map V.int))
def NumsOk (ns : List Int) : Prop := ns.length ≤ 200 ∧ ∀ n ∈ ns, 0 ≤ n ∧ n ≤ 1000000
def spWInit (C : Addr) : Sp := fun vs H Q _ => ∃ (x dx l : Addr) (ns : List Int), vs = [.ref x, .ref l] ∧ H x = some (.ins C dx []) ∧ (H l = some (.lst (ns.map V.int)) ∨ H l = some (.tup (ns.map V.int))) ∧ NumsOk ns ∧
  ∀ H', Chg x H H' → WhAt C H' x ns 0 → Q .non H'
def spWTaken (C : Addr) : Sp := fun vs H Q _ => ∃ (x : Addr) (ns : List Int) (n : Nat), vs = [.ref x] ∧ WhAt C H x ns n ∧ Q (.int n) H
def spWTake (K : PySem.W.Frag) (C D : Addr) : Sp := fun vs H Q E => ∃ (x : Addr) (ns : List Int) (n : Nat) (m : Int), vs = [.ref x, .int m] ∧ WhAt C H x ns n ∧ (0 < m → ∀ H', Chg x H H' → WhAt C H' x ns (n + 1) → Q (.int (due ns n m)) H') ∧
  (¬ 0 < m → ∀ d H', Same H H' → H d = none → H' d = some (.xd [("value", .int m)]) → E (.ref D) (some d) H')
def spWCopy (C : Addr) : Sp := fun vs H Q _ => ∃ (x : Addr) (ns : List Int) (n : Nat), vs = [.ref x] ∧ WhAt C H x ns n ∧ NumsOk ns ∧ ∀ y H', Same H H' → H y = none → WhAt C H' y ns n → Q (.ref y) H'
theorem WhAt.same {C : Addr} {H H' : Hp} {w : Addr} {ns : List Int} {n : Nat} (s : Same H H') : WhAt C H w ns n → WhAt C H' w ns n := fun ⟨dx, t, h1, h2⟩ => ⟨dx, t, s _ _ h1, s _ _ h2⟩
theorem WhAt.chg {C x : Addr} {H H' : Hp} {w : Addr} {ns : List Int} {n : Nat} (c : Chg x H H') (h : w ≠ x) (hx : ∀ xs, H x ≠ some (.tup xs)) : WhAt C H w ns n → WhAt C H' w ns n := fun ⟨dx, t, h1, h2⟩ =>
  ⟨dx, t, c _ _ h1 h, c _ _ h2 (fun z => hx _ (by rw [← z]; exact h2))⟩
theorem WhAt.ne_pot {C : Addr} {H : Hp} {w p : Addr} {ns : List Int} {n : Nat} : WhAt C H w ns n → Pot H p → w ≠ p := fun ⟨dx, t, h1, _⟩ ⟨x, y, h2, _⟩ => ne_of h1 h2 (by intro z; cases z)
theorem WhAt.updL {C : Addr} {H : Hp} {w x : Addr} {ns : List Int} {n : Nat} {xs : List V} {o : HO} (z : WhAt C H w ns n) (h : H x = some (.lst xs)) : WhAt C (L2.upd H x o) w ns n := by
  obtain ⟨dx, t, h1, h2⟩ := z
  exact ⟨dx, t, (upd_ne (ne_of h1 h (by intro z; cases z))).trans h1, (upd_ne (ne_of h2 h (by intro z; cases z))).trans h2⟩
/-! ### bits, the lowest first -/
def bitsL : Nat → Int → List Int
  | 0, _ => []
  | n + 1, x => x % 2 :: bitsL n (x / 2)
def ofL : List Int → Int
  | [] => 0
  | b :: r => b + 2 * ofL r
def addL : List Int → List Int → Int → List Int
  | p :: a, q :: b, c => (p + q + c) % 2 :: addL a b ((p + q + c) / 2)
  | _, _, _ => []
theorem bitsL_len (n : Nat) : ∀ x, (bitsL n x).length = n := by
  induction n with
  | zero => intro x; rfl
  | succ n ih => intro x; simp [bitsL, ih]
theorem mod_two_mul (t u M : Int) (hM : 0 < M) : (t + 2 * u) % (2 * M) = t % 2 + 2 * ((t / 2 + u) % M) := by
  have h1 := Int.emod_add_mul_ediv (t / 2 + u) M
  have h2 := Int.emod_nonneg (t / 2 + u) (show M ≠ 0 by omega)
  have h3 := Int.emod_lt_of_pos (t / 2 + u) hM
  have e : t + 2 * u = (t % 2 + 2 * ((t / 2 + u) % M)) + (2 * M) * ((t / 2 + u) / M) := by
    have h4 : 2 * (t / 2 + u) = 2 * ((t / 2 + u) % M) + (2 * M) * ((t / 2 + u) / M) := by
      rw [Int.mul_assoc, ← Int.mul_add, h1]
    omega
  rw [e, Int.add_mul_emod_self_left]
  exact Int.emod_eq_of_lt (by omega) (by omega)
theorem pow_pos2 (n : Nat) : (0 : Int) < 2 ^ n := Int.pow_pos (by decide)
theorem of_bits (n : Nat) : ∀ x, ofL (bitsL n x) = x % 2 ^ n := by
  induction n with
  | zero => intro x; simp [bitsL, ofL, Int.emod_one]
  | succ n ih =>
    intro x
    show x % 2 + 2 * ofL (bitsL n (x / 2)) = _
    rw [ih, Int.pow_succ', show x = x + 2 * 0 by omega, mod_two_mul _ _ _ (pow_pos2 n)]
    simp
theorem of_add : ∀ (a b : List Int) (c : Int), a.length = b.length → ofL (addL a b c) = (ofL a + ofL b + c) % 2 ^ a.length
  | [], [], c, _ => by simp [addL, ofL, Int.emod_one]
  | p :: a, q :: b, c, h => by
    have ih := of_add a b ((p + q + c) / 2) (by simpa using h)
    show (p + q + c) % 2 + 2 * ofL (addL a b ((p + q + c) / 2)) = (p + 2 * ofL a + (q + 2 * ofL b) + c) % 2 ^ (a.length + 1)
    rw [ih, Int.pow_succ', show p + 2 * ofL a + (q + 2 * ofL b) + c = (p + q + c) + 2 * (ofL a + ofL b) by omega, mod_two_mul _ _ _ (pow_pos2 _)]
    congr 3
    omega
theorem add_len : ∀ (a b : List Int) (c : Int), a.length = b.length → (addL a b c).length = a.length
  | [], [], _, _ => rfl
  | p :: a, q :: b, c, h => by
    show (addL a b _).length + 1 = a.length + 1
    rw [add_len a b _ (by simpa using h)]
theorem of_app : ∀ (a b : List Int), ofL (a ++ b) = ofL a + 2 ^ a.length * ofL b
  | [], b => by simp [ofL]
  | p :: a, b => by
    show p + 2 * ofL (a ++ b) = p + 2 * ofL a + 2 ^ (a.length + 1) * ofL b
    rw [of_app a b, Int.pow_succ', Int.mul_assoc]
    omega
theorem bits_take : ∀ (n k : Nat) (x : Int), (bitsL n x).take k = bitsL (min k n) x
  | 0, k, x => by simp [bitsL]
  | n + 1, 0, x => by simp [bitsL]
  | n + 1, k + 1, x => by
    rw [show min (k + 1) (n + 1) = min k n + 1 by omega]
    simp [bitsL, bits_take n k]
theorem bits_drop : ∀ (n k : Nat) (x : Int), (bitsL n x).drop k = bitsL (n - k) (x / 2 ^ k)
  | 0, k, x => by simp [bitsL]
  | n + 1, 0, x => by simp
  | n + 1, k + 1, x => by
    rw [show n + 1 - (k + 1) = n - k by omega, Int.pow_succ', ← Int.ediv_ediv_of_nonneg (by decide)]
    simp [bitsL, bits_drop n k]
theorem bits_mem : ∀ (n : Nat) (x b : Int), b ∈ bitsL n x → b = 0 ∨ b = 1
  | 0, x, b, h => by cases h
  | n + 1, x, b, h => by
    rcases List.mem_cons.mp h with h | h
    · omega
    · exact bits_mem n _ b h
theorem of_rep (k : Nat) : ofL (List.replicate k 0) = 0 := by
  induction k with
  | zero => rfl
  | succ k ih => simp [List.replicate_succ, ofL, ih]
/-- both, either, unlike -/
theorem of_and (n : Nat) : ∀ (x y : Nat), x < 2 ^ n → y < 2 ^ n → ofL (List.zipWith (fun p q => p * q) (bitsL n x) (bitsL n y)) = ((x &&& y : Nat) : Int) := by
  induction n with
  | zero =>
    intro x y hx hy
    have e : x = 0 := by simpa using hx
    have e' : y = 0 := by simpa using hy
    subst e e'
    simp [bitsL, ofL]
  | succ n ih =>
    intro x y hx hy
    have h := ih (x / 2) (y / 2) (by rw [Nat.pow_succ] at hx; omega) (by rw [Nat.pow_succ] at hy; omega)
    show (fun p q : Int => p * q) ((x : Int) % 2) ((y : Int) % 2) + 2 * ofL (List.zipWith _ (bitsL n ((x : Int) / 2)) (bitsL n ((y : Int) / 2))) = _
    rw [show (x : Int) / 2 = ((x / 2 : Nat) : Int) by omega, show (y : Int) / 2 = ((y / 2 : Nat) : Int) by omega, h]
    have e1 : (x &&& y) / 2 = x / 2 &&& y / 2 := Nat.and_div_two
    have e2 : (x &&& y) % 2 = (x % 2) &&& (y % 2) := Nat.and_mod_two_pow (n := 1)
    rw [← e1]
    have q1 : x % 2 = 0 ∨ x % 2 = 1 := by omega
    have q2 : y % 2 = 0 ∨ y % 2 = 1 := by omega
    have q3 : (x : Int) % 2 = ((x % 2 : Nat) : Int) := by omega
    have q4 : (y : Int) % 2 = ((y % 2 : Nat) : Int) := by omega
    show (fun p q : Int => p * q) ((x : Int) % 2) ((y : Int) % 2) + _ = _
    rw [q3, q4]
    rcases q1 with q1 | q1 <;> rcases q2 with q2 | q2 <;> (rw [q1, q2] at e2 ⊢; generalize x &&& y = z at e2 ⊢; simp at e2 ⊢; omega)
theorem of_or (n : Nat) : ∀ (x y : Nat), x < 2 ^ n → y < 2 ^ n → ofL (List.zipWith (fun p q => if q > p then q else p) (bitsL n x) (bitsL n y)) = ((x ||| y : Nat) : Int) := by
  induction n with
  | zero =>
    intro x y hx hy
    have e : x = 0 := by simpa using hx
    have e' : y = 0 := by simpa using hy
    subst e e'
    simp [bitsL, ofL]
  | succ n ih =>
    intro x y hx hy
    have h := ih (x / 2) (y / 2) (by rw [Nat.pow_succ] at hx; omega) (by rw [Nat.pow_succ] at hy; omega)
    show (fun p q : Int => if q > p then q else p) ((x : Int) % 2) ((y : Int) % 2) + 2 * ofL (List.zipWith _ (bitsL n ((x : Int) / 2)) (bitsL n ((y : Int) / 2))) = _
    rw [show (x : Int) / 2 = ((x / 2 : Nat) : Int) by omega, show (y : Int) / 2 = ((y / 2 : Nat) : Int) by omega, h]
    have e1 : (x ||| y) / 2 = x / 2 ||| y / 2 := Nat.or_div_two
    have e2 : (x ||| y) % 2 = (x % 2) ||| (y % 2) := Nat.or_mod_two_pow (n := 1)
    rw [← e1]
    have q1 : x % 2 = 0 ∨ x % 2 = 1 := by omega
    have q2 : y % 2 = 0 ∨ y % 2 = 1 := by omega
    have q3 : (x : Int) % 2 = ((x % 2 : Nat) : Int) := by omega
    have q4 : (y : Int) % 2 = ((y % 2 : Nat) : Int) := by omega
    show (fun p q : Int => if q > p then q else p) ((x : Int) % 2) ((y : Int) % 2) + _ = _
    rw [q3, q4]
    rcases q1 with q1 | q1 <;> rcases q2 with q2 | q2 <;> (rw [q1, q2] at e2 ⊢; generalize x ||| y = z at e2 ⊢; simp at e2 ⊢; omega)
theorem of_xor (n : Nat) : ∀ (x y : Nat), x < 2 ^ n → y < 2 ^ n → ofL (List.zipWith (fun p q => if p - q < 0 then -(p - q) else p - q) (bitsL n x) (bitsL n y)) = ((x ^^^ y : Nat) : Int) := by
  induction n with
  | zero =>
    intro x y hx hy
    have e : x = 0 := by simpa using hx
    have e' : y = 0 := by simpa using hy
    subst e e'
    simp [bitsL, ofL]
  | succ n ih =>
    intro x y hx hy
    have h := ih (x / 2) (y / 2) (by rw [Nat.pow_succ] at hx; omega) (by rw [Nat.pow_succ] at hy; omega)
    show (fun p q : Int => if p - q < 0 then -(p - q) else p - q) ((x : Int) % 2) ((y : Int) % 2) + 2 * ofL (List.zipWith _ (bitsL n ((x : Int) / 2)) (bitsL n ((y : Int) / 2))) = _
    rw [show (x : Int) / 2 = ((x / 2 : Nat) : Int) by omega, show (y : Int) / 2 = ((y / 2 : Nat) : Int) by omega, h]
    have e1 : (x ^^^ y) / 2 = x / 2 ^^^ y / 2 := Nat.xor_div_two
    have e2 : (x ^^^ y) % 2 = (x % 2) ^^^ (y % 2) := Nat.xor_mod_two_pow (n := 1)
    rw [← e1]
    have q1 : x % 2 = 0 ∨ x % 2 = 1 := by omega
    have q2 : y % 2 = 0 ∨ y % 2 = 1 := by omega
    have q3 : (x : Int) % 2 = ((x % 2 : Nat) : Int) := by omega
    have q4 : (y : Int) % 2 = ((y % 2 : Nat) : Int) := by omega
    show (fun p q : Int => if p - q < 0 then -(p - q) else p - q) ((x : Int) % 2) ((y : Int) % 2) + _ = _
    rw [q3, q4]
    rcases q1 with q1 | q1 <;> rcases q2 with q2 | q2 <;> (rw [q1, q2] at e2 ⊢; generalize x ^^^ y = z at e2 ⊢; simp at e2 ⊢; omega)
/-! ### times: the rows of the one word, added where the other has a bit -/
theorem pow_split (y : Int) (i : Nat) : y % 2 ^ (i + 1) = y % 2 ^ i + 2 ^ i * (y / 2 ^ i % 2) := by
  have h1 := Int.emod_add_mul_ediv y (2 ^ i)
  have h2 := Int.emod_add_mul_ediv (y / 2 ^ i) 2
  have h3 := Int.emod_nonneg y (show (2 : Int) ^ i ≠ 0 from (by have := pow_pos2 i; omega))
  have h4 := Int.emod_lt_of_pos y (pow_pos2 i)
  have h5 : y / 2 ^ i % 2 = 0 ∨ y / 2 ^ i % 2 = 1 := by omega
  have hp := pow_pos2 i
  have e : y = (y % 2 ^ i + 2 ^ i * (y / 2 ^ i % 2)) + 2 ^ (i + 1) * (y / 2 ^ i / 2) := by
    rw [Int.pow_succ, Int.mul_assoc, Int.add_assoc, ← Int.mul_add, h2, h1]
  conv => lhs; rw [e]
  rw [Int.add_mul_emod_self_left]
  refine Int.emod_eq_of_lt ?_ ?_
  · rcases h5 with h | h <;> rw [h] <;> omega
  · rw [Int.pow_succ]
    rcases h5 with h | h <;> rw [h] <;> omega
theorem nat_and_put (x lo m : Nat) : x &&& ((2 ^ m - 1) * 2 ^ lo) = 2 ^ lo * ((x / 2 ^ lo) % 2 ^ m) := by
  refine Nat.eq_of_testBit_eq fun i => ?_
  rw [Nat.testBit_and, Nat.testBit_mul_two_pow, Nat.testBit_two_pow_mul, Nat.testBit_mod_two_pow, Nat.testBit_div_two_pow, Nat.testBit_two_pow_sub_one]
  by_cases h : lo ≤ i
  · simp [h, Nat.sub_add_cancel h, Nat.add_sub_cancel' h]
    cases x.testBit i <;> simp
  · simp [h]
theorem nat_put (x lo m v : Nat) (hv : v < 2 ^ m) : (x - (x &&& ((2 ^ m - 1) * 2 ^ lo))) ||| (v * 2 ^ lo) = x % 2 ^ lo + 2 ^ lo * v + 2 ^ (lo + m) * (x / 2 ^ (lo + m)) := by
  have h1 := Nat.div_add_mod x (2 ^ lo)
  have h2 := Nat.div_add_mod (x / 2 ^ lo) (2 ^ m)
  have hl : x % 2 ^ lo < 2 ^ lo := Nat.mod_lt _ (Nat.two_pow_pos _)
  have e1 : x - (x &&& ((2 ^ m - 1) * 2 ^ lo)) = 2 ^ lo * (2 ^ m * (x / 2 ^ lo / 2 ^ m)) + x % 2 ^ lo := by
    rw [nat_and_put]
    have e : 2 ^ lo * (x / 2 ^ lo) = 2 ^ lo * (2 ^ m * (x / 2 ^ lo / 2 ^ m)) + 2 ^ lo * (x / 2 ^ lo % 2 ^ m) := by
      rw [← Nat.mul_add, h2]
    omega
  have e2 : (2 ^ lo * (2 ^ m * (x / 2 ^ lo / 2 ^ m)) + x % 2 ^ lo) ||| (v * 2 ^ lo) = 2 ^ lo * ((2 ^ m * (x / 2 ^ lo / 2 ^ m)) ||| v) + x % 2 ^ lo := by
    refine Nat.eq_of_testBit_eq fun i => ?_
    rw [Nat.testBit_or, Nat.testBit_two_pow_mul_add _ hl, Nat.testBit_two_pow_mul_add _ hl, Nat.testBit_mul_two_pow]
    by_cases h : i < lo
    · simp [h, Nat.not_le.mpr h]
    · simp [h, Nat.not_lt.mp h]
  rw [e1, e2, ← Nat.two_pow_add_eq_or_of_lt hv, Nat.mul_add, Nat.pow_add, Nat.div_div_eq_div_mul, Nat.mul_assoc]
  omega
theorem int_put {x lo m v : Int} (hx : 0 ≤ x) (h0 : 0 ≤ lo) (h1 : 0 ≤ m) (hv : 0 ≤ v) (hv2 : v < 2 ^ m.toNat) :
    Builtin.bitOr (Builtin.bitAnd x (Builtin.bitNot ((1 * 2 ^ m.toNat - 1) * 2 ^ lo.toNat))) (v * 2 ^ lo.toNat) = x % 2 ^ lo.toNat + 2 ^ lo.toNat * v + 2 ^ (lo.toNat + m.toNat) * (x / 2 ^ (lo.toNat + m.toNat)) := by
  obtain ⟨x, rfl⟩ := Int.eq_ofNat_of_zero_le hx
  obtain ⟨v, rfl⟩ := Int.eq_ofNat_of_zero_le hv
  generalize lo.toNat = lo
  generalize m.toNat = m at hv2 ⊢
  have hv3 : v < 2 ^ m := by exact_mod_cast hv2
  have hp : 1 ≤ 2 ^ m := Nat.two_pow_pos m
  have eM : ((1 : Int) * 2 ^ m - 1) * 2 ^ lo = (((2 ^ m - 1) * 2 ^ lo : Nat) : Int) := by
    rw [Int.one_mul, Int.natCast_mul, Int.natCast_sub hp]
    simp
  have eA : Builtin.bitAnd (x : Int) (Builtin.bitNot ((1 * 2 ^ m - 1) * 2 ^ lo)) = ((x - (x &&& ((2 ^ m - 1) * 2 ^ lo)) : Nat) : Int) := by
    rw [eM]
    generalize (2 ^ m - 1) * 2 ^ lo = M
    have hle : x &&& M ≤ x := Nat.and_le_left
    rw [PyProof.Rows.bitAnd_not, PyProof.Rows.bitAnd_pp (by omega) (by omega), Int.toNat_natCast, Int.toNat_natCast]
    omega
  rw [eA]
  have eV : (v : Int) * 2 ^ lo = ((v * 2 ^ lo : Nat) : Int) := by simp
  rw [eV, Bits.bitOr_pp (by omega) (by omega), Int.toNat_natCast, Int.toNat_natCast, nat_put x lo m v hv3]
  simp
theorem pow_le2 {k n : Nat} (h : k ≤ n) : (2 : Int) ^ k ≤ 2 ^ n := by exact_mod_cast Nat.pow_le_pow_right (by decide) h
/-! ### words, numbers within bounds: asked for, refused -/
def isWord : V → Bool
  | .int n => decide (0 ≤ n) && decide (n < 65536)
  | _ => false
def isMany (lo hi : Int) : V → Bool
  | .int n => decide (0 ≤ n) && (decide (lo ≤ n) && decide (n ≤ hi))
  | _ => false
def W16 (x : Int) : Prop := 0 ≤ x ∧ x < 65536
theorem isWord_of {x : Int} (h : W16 x) : isWord (.int x) = true := by
  obtain ⟨h1, h2⟩ := h
  simp [isWord, h1, h2]
theorem isMany_of {x lo hi : Int} (h0 : 0 ≤ x) (h1 : lo ≤ x) (h2 : x ≤ hi) : isMany lo hi (.int x) = true := by simp [isMany, h0, h1, h2]
/-- what is wanted of a refusal of v by an error of the class at C -/
def Refuse (C : Addr) (E : XK) (H : Hp) (v : V) : Prop := ∀ d H', Same H H' → H d = none → H' d = some (.xd [("value", v)]) → E (.ref C) (some d) H'
def spIsWord (K : PySem.W.Frag) : Sp := fun vs H Q _ => ∃ (v : V), vs = [v] ∧ KInt K H v (isI v) ∧ Q (.bl (isWord v)) H
def spWantWord (K : PySem.W.Frag) (C : Addr) : Sp := fun vs H Q E => ∃ (v : V), vs = [v] ∧ KInt K H v (isI v) ∧ (isWord v = true → Q .non H) ∧ (isWord v = false → Refuse C E H v)
def spWantMany (K : PySem.W.Frag) (C : Addr) : Sp := fun vs H Q E => ∃ (v : V) (lo hi : Int), vs = [v, .int lo, .int hi] ∧ KInt K H v (isI v) ∧ (isMany lo hi v = true → Q .non H) ∧ (isMany lo hi v = false → Refuse C E H v)
theorem w_wantWord {K : PySem.W.Frag} {C : Addr} {H : Hp} {Q : VK} {E : XK} {x : Int} (h : W16 x) (q : Q .non H) : spWantWord K C [.int x] H Q E := ⟨_, rfl, kint_int x, fun _ => q, fun z => by rw [isWord_of h] at z; cases z⟩
theorem w_wantMany {K : PySem.W.Frag} {C : Addr} {H : Hp} {Q : VK} {E : XK} {x lo hi : Int} (h0 : 0 ≤ x) (h1 : lo ≤ x) (h2 : x ≤ hi) (q : Q .non H) : spWantMany K C [.int x, .int lo, .int hi] H Q E := ⟨_, _, _, rfl, kint_int x, fun _ => q, fun z => by rw [isMany_of h0 h1 h2] at z; cases z⟩
/-- two words to one number -/
def spW2 (f : Int → Int → Int) (ok : Int → Int → Prop) : Sp := fun vs H Q _ => ∃ x y : Int, vs = [.int x, .int y] ∧ ok x y ∧ Q (.int (f x y)) H
def spI1 (f : Int → Int) (ok : Int → Prop) : Sp := fun vs H Q _ => ∃ x : Int, vs = [.int x] ∧ ok x ∧ Q (.int (f x)) H
def spI3 (f : Int → Int → Int → Int) (ok : Int → Int → Int → Prop) : Sp := fun vs H Q _ => ∃ x y z : Int, vs = [.int x, .int y, .int z] ∧ ok x y z ∧ Q (.int (f x y z)) H
def spI4 (f : Int → Int → Int → Int → Int) (ok : Int → Int → Int → Int → Prop) : Sp := fun vs H Q _ => ∃ x y z u : Int, vs = [.int x, .int y, .int z, .int u] ∧ ok x y z u ∧ Q (.int (f x y z u)) H
def spTwoW (K : PySem.W.Frag) : Sp := fun vs H Q _ => ∃ x y : Int, vs = [.int x, .int y] ∧ (W16 x ∧ W16 y) ∧ Q .non H
/-- a new list of ints -/
def NewL (H : Hp) (Q : VK) (xs : List Int) : Prop := ∀ p H', Same H H' → H p = none → H' p = some (.lst (xs.map V.int)) → Q (.ref p) H'
/-! ### loops and comprehensions over anything that is walked -/
def kLoop (g : TG) (tb : TS) (D : Ends) (σ : L2.St) (J : It) (H : Hp) : Prop := ∃ W : Nat → Nat → L2.St → Hp → Prop, (∃ m, W 0 m σ H) ∧ ∀ i m σ H, W i m σ H →
  (J.stop i H ∧ D.nx σ H) ∨ (J.go i H ∧ ∃ N : L2.St → Hp → Prop, (∀ σ' H', N σ' H' → ∃ m', m' < m ∧ W (i + 1) m' σ' H') ∧ ∀ x H', J.yld i H x H' → g x σ H' fun σ2 H2 => tb { D with nx := N, ct := N, bk := D.nx } σ2 H2)
def kComp (g : TG) (te : TE) (vs : List Nat) (σ : L2.St) (Q : VK) (J : It) (H : Hp) : Prop := ∀ D, H D = none → ∃ W : Nat → Nat → Hp → Prop, (∃ m, W 0 m (upd H D (.lst []))) ∧ ∀ i m H, W i m H →
  (J.stop i H ∧ Q (.ref D) H) ∨ (J.go i H ∧ ∃ Nx : Hp → Prop, (∀ H', Nx H' → ∃ m', m' < m ∧ W (i + 1) m' H') ∧ ∀ x H', J.yld i H x H' → g x (wipe σ vs) H' fun σ2 H2 => wipe σ2 vs = wipe σ vs ∧ tYes σ2 H2 fun b H3 =>
    if b = true then te σ2 H3 fun y H4 => ∃ acc, H4 D = some (.lst acc) ∧ acc.length < sizeLine ∧ Nx (upd H4 D (.lst (acc ++ [y]))) else Nx H3)
section
variable {K : PySem.W.Frag} {σ : L2.St} {H : Hp} {g : TG} {tb : TS} {te tl : TE} {ta : TA} {nx bk ct : L2.St → Hp → Prop} {rt Q : VK} {vs : List Nat} {J : It} {n : Nat} {G : Hp → Prop} {Y : Nat → Hp → V → Hp → Prop} {R : It → Hp → Prop}
def kZip (K : PySem.W.Frag) (R : It → Hp → Prop) (us : List V) (H : Hp) : Prop := ∃ a b xs ys, us = [.ref a, .ref b] ∧ SqL K H a xs ∧ SqL K H b ys ∧ R (Itz K a b) H
def kEnum (K : PySem.W.Frag) (R : It → Hp → Prop) (us : List V) (H : Hp) : Prop := ∃ a xs, us = [.ref a] ∧ SqL K H a xs ∧ R (Ite K a) H
theorem w_forZ (q : ta σ H fun us H1 => kZip K (kLoop g tb ⟨nx, rt, bk, ct⟩ σ) us H1) : tFor (iZip K ta) g tb ⟨nx, rt, bk, ct⟩ σ H := q
theorem w_forE (q : ta σ H fun us H1 => kEnum K (kLoop g tb ⟨nx, rt, bk, ct⟩ σ) us H1) : tFor (iEnum K ta) g tb ⟨nx, rt, bk, ct⟩ σ H := q
theorem w_lcZ (q : ta σ H fun us H1 => kZip K (kComp g te vs σ Q) us H1) : tLc (iZip K ta) g tYes te vs σ H Q := q
theorem w_lcE (q : ta σ H fun us H1 => kEnum K (kComp g te vs σ Q) us H1) : tLc (iEnum K ta) g tYes te vs σ H Q := q
theorem w_zip {a b : Addr} {xs ys : List V} (h1 : SqL K H a xs) (h2 : SqL K H b ys) (q : R (Itz K a b) H) : kZip K R [.ref a, .ref b] H := ⟨a, b, xs, ys, rfl, h1, h2, q⟩
theorem w_enum {a : Addr} {xs : List V} (h1 : SqL K H a xs) (q : R (Ite K a) H) : kEnum K R [.ref a] H := ⟨a, xs, rfl, h1, q⟩
theorem w_loop (w : Walk J n G Y) (Pv : Nat → L2.St → Hp → Prop) (h0 : Pv 0 σ H) (hG : ∀ i σ H, i ≤ n → Pv i σ H → G H)
    (hs : ∀ i x σ' H' H'', i < n → Pv i σ' H' → Y i H' x H'' → g x σ' H'' fun σ2 H2 => tb ⟨Pv (i + 1), rt, nx, Pv (i + 1)⟩ σ2 H2) (hd : ∀ σ' H', Pv n σ' H' → nx σ' H') : kLoop g tb ⟨nx, rt, bk, ct⟩ σ J H :=
  for_it w (D := ⟨nx, rt, bk, ct⟩) Pv h0 hG hs hd
/-- each turn of a comprehension gives f i, and nothing that stood is changed -/
theorem w_comp (f : Nat → V) (w : Walk J n G Y) (hn : n ≤ 100000) (hG : ∀ H', Same H H' → G H')
    (step : ∀ (i : Nat) (x : V) (H' H'' : Hp) (R : VK) (S : Hp → Prop), i < n → Same H H' → Y i H' x H'' → (Same H' H'' → ∀ H4, Same H'' H4 → R (f i) H4) → g x (wipe σ vs) H'' fun σ2 H2 => wipe σ2 vs = wipe σ vs ∧ tYes σ2 H2 fun b H3 => if b = true then te σ2 H3 R else S H3)
    (q : ∀ D H', Same H H' → H D = none → H' D = some (.lst ((List.range n).map f)) → Q (.ref D) H') : kComp g te vs σ Q J H := fun D nD => by
  refine lc_it w (fun i H' => i ≤ n ∧ Same H H' ∧ H' D = some (.lst ((List.range i).map f))) ⟨Nat.zero_le _, same_new nD, upd_same⟩ (fun i H' _ p => hG _ p.2.1) (fun i x H' H'' hi p y => ?_) (fun H' p => q D H' p.2.1 nD p.2.2)
  refine step i x H' H'' _ _ hi p.2.1 y fun s4 H4 s5 => ?_
  have hD4 := s5 _ _ (s4 _ _ p.2.2)
  refine ⟨_, hD4, ?_, hi, lc_inv nD ((p.2.1.trans s4).trans s5) hD4 _ rfl⟩
  rw [List.length_map, List.length_range]
  exact Nat.lt_of_lt_of_le (Nat.lt_of_lt_of_le hi hn) (by decide)
end
/-! ### lists of ints, compared -/
theorem ints_lay : ∀ ps : List Int, PyData.canLayAll0 (ps.map PyData.int) = true
  | [] => rfl
  | q :: ps => by
    rw [List.map_cons]
    simp only [PyData.canLayAll0, ints_lay ps, PyData.canLay0, Bool.and_self]
theorem ints_depth : ∀ ps : List Int, PyData.depthAll (ps.map PyData.int) ≤ 1
  | [] => by simp [PyData.depthAll]
  | q :: ps => by
    have h := ints_depth ps
    rw [List.map_cons]
    simp only [PyData.depthAll, PyData.depth] at h ⊢
    omega
theorem ints_shaped (ps : List Int) : SeqAt.shaped (.list (ps.map PyData.int)) = true := by
  unfold SeqAt.shaped
  have h := ints_depth ps
  rw [Bool.and_eq_true]
  refine ⟨by rw [PyData.canLay0]; exact ints_lay ps, decide_eq_true ?_⟩
  simp only [PyData.depth]
  omega
theorem ints_eqv (ps : List Int) : PyData.eqv (.list (ps.map PyData.int)) (.list (ps.map PyData.int)) = true := SeqAt.eqv_refl _ (by rw [PyData.canLay0]; exact ints_lay ps)
theorem ints_dp {K : PySem.W.Frag} {H : Hp} : ∀ ps : List Int, DpAll K H (ps.map V.int) (ps.map PyData.int)
  | [] => .nil
  | n :: ps => by
    rw [List.map_cons, List.map_cons]
    exact .cons (.int n) (ints_dp ps)
theorem w_neIs {K : PySem.W.Frag} {H : Hp} {Q : VK} {p r : Addr} {ps qs : List Int} (h1 : SqL K H p (ps.map V.int)) (h2 : SqL K H r (qs.map V.int)) (e : ps = qs) (q : Q (.bl false) H) : rNeD K (.ref p) (.ref r) H Q := by
  subst e
  exact w_neD (.list (ps.map PyData.int)) (.lst h1 (ints_dp ps)) (.lst h2 (ints_dp ps)) (ints_shaped _) (ints_eqv _) q
theorem w_eqIs {K : PySem.W.Frag} {H : Hp} {Q : VK} {p r : Addr} {ps qs : List Int} (h1 : SqL K H p (ps.map V.int)) (h2 : SqL K H r (qs.map V.int)) (e : ps = qs) (q : Q (.bl true) H) : rEqD K (.ref p) (.ref r) H Q := by
  subst e
  exact w_eqD (.list (ps.map PyData.int)) (.lst h1 (ints_dp ps)) (.lst h2 (ints_dp ps)) (ints_shaped _) (ints_eqv _) q
/-- what isinstance asks of the instances of the class at C -/
structure InsTy (K : PySem.W.Frag) (C : Addr) : Prop where
  ha : PySem.W.findIn K (.ref C) "__class__" = some (some (.builtin "object.__class__"))
  hn : PySem.W.specialIn K (.builtin "object.__class__") "__get__" = some (some (.builtin "getset_descriptor.__get__"))
  ht : PySem.W.takesIn K (.builtin "object.__class__") = some true
  hm : PySem.W.mroIn K C (.type "object") = some true
theorem InsTy.ty {K : PySem.W.Frag} {C a dx : Addr} {fs : List (Str × V)} {H : Hp} (i : InsTy K C) (c : Cls K C) (h : H a = some (.ins C dx fs)) : TyX K H (.ref a) (.ref C) := .base (.ins h c i.ha i.hn i.ht i.hm)
theorem kit_own {K : PySem.W.Frag} {t : String} {C : Addr} (h1 : PySem.W.isClsIn K C = true) (h2 : PySem.W.typeIn K (.ref C) = some (.type "type")) (h3 : PySem.W.subIn K (.type t) (.ref C) = some false) : PySem.W.kitOne K (.type t) (.ref C) = some false := by
  unfold PySem.W.kitOne
  rw [if_neg (by simp)]
  show (if ((PySem.W.clsIn K C).isSome && PySem.W.typeIn K (.ref C) == some (.type "type")) = true then PySem.W.subIn K (.type t) (.ref C) else none) = some false
  rw [if_pos (by rw [show (PySem.W.clsIn K C).isSome = true from h1, h2] <;> rfl)]
  exact h3
/-! ### x == y by x's own __eq__, whatever y is -/
structure EqC (K : PySem.W.Frag) (C f : Addr) : Prop where
  at_ : PySem.W.findIn K (.ref C) "__eq__" = some (some (.ref f))
  fn : PySem.W.isFn K (.ref f) = true
def rOwn (K : PySem.W.Frag) (C : Addr) (sp : Sp) (E : XK) : R2 := fun x y H Q => ∃ (a dx : Addr) (fs : List (Str × V)) (t : Value), x = .ref a ∧ H a = some (.ins C dx fs) ∧ TyX K H y t ∧ PySem.W.notFirst K C t = true ∧ sp [x, y] H (fun v H' => ∃ b, v = .bl b ∧ Q v H') E
section
open PySem.Spec PyProof.Rows
theorem op_own {X : Cx} {CX : CXT} {n : Nat} {C f : Addr} {fd : FuncData} {ps : List Str} {sp : Sp} {E : XK} (F : FnOk X.prog X.w X.K X.mg X.base CX n f fd ps sp) (q : EqC X.K C f) (hr : Room n X.A) (hb : Binds X.K fd ps []) (hx : Passes CX X E) : OpR X (compareOp .Eq) (rOwn X.K C sp E) := by
  intro pins s σ H x y v u Q I rx ry h
  obtain ⟨a, dx, fs, t, rfl, ha, ty, hn, hsp⟩ := h
  show wpAny (model X.prog X.w) X.A (richCompare .Eq v u) (EP X pins σ Q) X.xe s
  obtain rfl : v = Value.ref a := rx
  obtain ⟨mA, J, _⟩ := ins_get I.hok ha
  obtain ⟨od, J, _⟩ := J.look
  obtain ⟨m, hF⟩ := I.fr
  obtain ⟨P, Z, p, _⟩ := kit_of I ry ty
  refine PySem.W.cmp_K (op := .Eq) (tb := t) hr.units0 hF I.ok.mod.kin J (Z.ty _ _ I.kIn p) hn q.at_ q.fn ?_
  have hl := F.len _ _ _ _ hsp
  have r2 : Vals [V.ref a, y] [Value.ref a, u] := .cons rfl (.cons ry .nil)
  refine wpAny_call (codeAny_mono (F.run X.A X.stack s H ⟨[.ref a, u], []⟩ [.ref a, u] [.ref a, y] _ E hr I.env0 (by
    have h2 := hb s [.ref a, u] I.kIn (by simpa using hl)
    simpa using h2) r2 hsp) fun r s' hq => ?_)
  cases r with
  | error e => exact hx pins σ H s e s' I hq
  | ok fl =>
    cases fl with
    | ret w =>
      obtain ⟨z, H', I', rz, ⟨b, ez, q⟩⟩ := I.after hq
      subst ez
      cases rz
      exact ⟨.bl b, H', I', rfl, q⟩
    | next => exact False.elim hq
    | brk => exact False.elim hq
    | cont => exact False.elim hq
end
end Toy
namespace Toy
open PySem L2
/-! ## what stands apart: a small logic of places -/
/-- never changed by what is walked -/
def Imm : HO → Bool
  | .tup _ | .xd _ | .rng _ _ | .met _ _ | .own _ => true
  | .frz _ (.lst _) | .frz _ (.tup _) => true
  | _ => false
def Keep (S : Addr → Prop) (H H' : Hp) : Prop := ∀ a o, H a = some o → (S a ∨ Imm o = true) → H' a = some o
theorem Keep.mono {S T : Addr → Prop} {H H' : Hp} (k : Keep T H H') (h : ∀ a, S a → T a) : Keep S H H' := fun a o e q => k a o e (q.imp (h a) id)
structure HA where
  P : Hp → (Addr → Prop) → Prop
  st : ∀ {H H' : Hp} {S : Addr → Prop}, P H S → Keep S H H' → P H' S
  mu : ∀ {H : Hp} {S : Addr → Prop} {a : Addr}, P H S → S a → ∃ o, H a = some o ∧ Imm o = false
def HL : List HA → Hp → (Addr → Prop) → Prop
  | [], _, S => ∀ a, ¬ S a
  | A :: L, H, S => ∃ S1 S2, A.P H S1 ∧ HL L H S2 ∧ (∀ a, S1 a → ¬ S2 a) ∧ ∀ a, S a ↔ S1 a ∨ S2 a
theorem HL.st : ∀ {L : List HA} {H H' : Hp} {S : Addr → Prop}, HL L H S → Keep S H H' → HL L H' S
  | [], _, _, _, h, _ => h
  | A :: L, H, H', S, ⟨S1, S2, h1, h2, hd, hs⟩, k => ⟨S1, S2, A.st h1 (k.mono fun a q => (hs a).mpr (.inl q)), HL.st h2 (k.mono fun a q => (hs a).mpr (.inr q)), hd, hs⟩
theorem HL.mu : ∀ {L : List HA} {H : Hp} {S : Addr → Prop} {a : Addr}, HL L H S → S a → ∃ o, H a = some o ∧ Imm o = false
  | [], _, _, a, h, q => (h a q).elim
  | A :: L, H, S, a, ⟨S1, S2, h1, h2, hd, hs⟩, q => by
    rcases (hs a).mp q with q | q
    · exact A.mu h1 q
    · exact HL.mu h2 q
def Holds (L : List HA) (H : Hp) : Prop := ∃ S, HL L H S
def Ent (L : List HA) (φ : Hp → Prop) : Prop := ∀ H, Holds L H → φ H
def Sub (L M : List HA) : Prop := ∀ H S, HL L H S → ∃ S', HL M H S' ∧ ∀ a, S' a → S a
section
variable {L M N R : List HA} {A B : HA} {φ ψ : Hp → Prop} {H H' : Hp} {S : Addr → Prop}
theorem Sub.refl : Sub L L := fun H S h => ⟨S, h, fun _ q => q⟩
theorem Sub.trans (a : Sub L M) (b : Sub M N) : Sub L N := fun H S h => by
  obtain ⟨S1, h1, q1⟩ := a H S h
  obtain ⟨S2, h2, q2⟩ := b H S1 h1
  exact ⟨S2, h2, fun a q => q1 a (q2 a q)⟩
theorem Sub.cons (a : Sub L M) : Sub (A :: L) (A :: M) := fun H S ⟨S1, S2, h1, h2, hd, hs⟩ => by
  obtain ⟨S3, h3, q3⟩ := a H S2 h2
  refine ⟨fun b => S1 b ∨ S3 b, ⟨S1, S3, h1, h3, fun b q k => hd b q (q3 b k), fun b => Iff.rfl⟩, fun b q => (hs b).mpr (q.imp id (q3 b))⟩
theorem Sub.swap : Sub (A :: B :: L) (B :: A :: L) := fun H S ⟨S1, S2, h1, ⟨S3, S4, h3, h4, hd2, hs2⟩, hd, hs⟩ => by
  refine ⟨S, ⟨S3, fun b => S1 b ∨ S4 b, h3, ⟨S1, S4, h1, h4, fun b q k => hd b q ((hs2 b).mpr (.inr k)), fun b => Iff.rfl⟩, fun b q k => ?_, fun b => ?_⟩, fun _ q => q⟩
  · rcases k with k | k
    · exact hd b k ((hs2 b).mpr (.inl q))
    · exact hd2 b q k
  · rw [hs b, hs2 b]
    constructor
    · rintro (q | q | q)
      · exact .inr (.inl q)
      · exact .inl q
      · exact .inr (.inr q)
    · rintro (q | q | q)
      · exact .inr (.inl q)
      · exact .inl q
      · exact .inr (.inr q)
theorem Sub.drop (a : Sub L M) : Sub (A :: L) M := fun H S ⟨S1, S2, h1, h2, hd, hs⟩ => by
  obtain ⟨S3, h3, q3⟩ := a H S2 h2
  exact ⟨S3, h3, fun b q => (hs b).mpr (.inr (q3 b q))⟩
theorem Sub.nil : Sub L [] := fun H S h => ⟨fun _ => False, fun a q => q, fun a q => q.elim⟩
theorem Sub.to (a : Sub L M) : Holds L H → Holds M H := fun ⟨S, h⟩ => by
  obtain ⟨S1, h1, _⟩ := a H S h
  exact ⟨S1, h1⟩
theorem Ent.sub (a : Sub L M) (e : Ent M φ) : Ent L φ := fun H h => e H (a.to h)
theorem Ent.up (f : ∀ H, φ H → ψ H) (e : Ent L φ) : Ent L ψ := fun H h => f H (e H h)
theorem Holds.go (h : Holds L H) (e : Ent L φ) : φ H := e H h
theorem Ent.pure {p : Prop} (h : p) : Ent L fun _ => p := fun _ _ => h
/-- A is one of L; R the rest -/
def Take (A : HA) (L R : List HA) : Prop := Sub L (A :: R)
theorem take_here : Take A (A :: L) L := Sub.refl
theorem take_there (t : Take A L R) : Take A (B :: L) (B :: R) := (Sub.cons t).trans Sub.swap
theorem Ent.take (t : Take A L R) (e : Ent (A :: R) φ) : Ent L φ := e.sub t
theorem Sub.take (t : Take A L R) (s : Sub R M) : Sub L (A :: M) := Sub.trans t (Sub.cons s)
/-! ### what is made of these -/
def ex {α : Sort _} (F : α → HA) : HA := ⟨fun H S => ∃ x, (F x).P H S, fun ⟨x, h⟩ k => ⟨x, (F x).st h k⟩, fun ⟨x, h⟩ q => (F x).mu h q⟩
def pu (p : Prop) : HA := ⟨fun _ S => p ∧ ∀ a, ¬ S a, fun h _ => h, fun h q => (h.2 _ q).elim⟩
def all (M : List HA) : HA := ⟨fun H S => HL M H S, fun h k => h.st k, fun h q => h.mu q⟩
theorem Ent.ex {α : Sort _} {F : α → HA} (e : ∀ x, Ent (F x :: L) φ) : Ent (ex F :: L) φ := fun H ⟨S, S1, S2, ⟨x, h1⟩, h⟩ => e x H ⟨S, S1, S2, h1, h⟩
theorem Ent.pu {p : Prop} (e : p → Ent L φ) : Ent (pu p :: L) φ := fun H ⟨S, S1, S2, h1, h2, _⟩ => e h1.1 H ⟨S2, h2⟩
theorem Sub.ex {α : Sort _} {F : α → HA} (x : α) (s : Sub L (F x :: M)) : Sub L (ex F :: M) := fun H S h => by
  obtain ⟨S', ⟨S1, S2, h1, h2⟩, q⟩ := s H S h
  exact ⟨S', ⟨S1, S2, ⟨x, h1⟩, h2⟩, q⟩
theorem Sub.pu {p : Prop} (h : p) (s : Sub L M) : Sub L (pu p :: M) := fun H S k => by
  obtain ⟨S', h1, q⟩ := s H S k
  exact ⟨S', ⟨fun _ => False, S', ⟨h, fun _ q => q⟩, h1, fun _ q => q.elim, fun a => ⟨.inr, fun z => z.elim (fun z => z.elim) id⟩⟩, q⟩
theorem HL.app : ∀ {M : List HA} {S : Addr → Prop}, HL (M ++ L) H S ↔ ∃ S1 S2, HL M H S1 ∧ HL L H S2 ∧ (∀ a, S1 a → ¬ S2 a) ∧ ∀ a, S a ↔ S1 a ∨ S2 a
  | [], S => ⟨fun h => ⟨fun _ => False, S, fun _ q => q, h, fun _ q => q.elim, fun a => ⟨.inr, fun z => z.elim (fun z => z.elim) id⟩⟩, fun ⟨S1, S2, h1, h2, _, hs⟩ => by
      have e : S = S2 := funext fun a => propext ⟨fun q => ((hs a).mp q).elim (fun z => (h1 a z).elim) id, fun q => (hs a).mpr (.inr q)⟩
      rw [e]
      exact h2⟩
  | A :: M, S => by
    constructor
    · rintro ⟨S1, S2, h1, h2, hd, hs⟩
      obtain ⟨S3, S4, h3, h4, hd2, hs2⟩ := HL.app.mp h2
      refine ⟨fun a => S1 a ∨ S3 a, S4, ⟨S1, S3, h1, h3, fun a q k => hd a q ((hs2 a).mpr (.inl k)), fun a => Iff.rfl⟩, h4, fun a q k => ?_, fun a => ?_⟩
      · rcases q with q | q
        · exact hd a q ((hs2 a).mpr (.inr k))
        · exact hd2 a q k
      · rw [hs a, hs2 a, or_assoc]
    · rintro ⟨S1, S2, ⟨S3, S4, h3, h4, hd2, hs2⟩, h2, hd, hs⟩
      refine ⟨S3, fun a => S4 a ∨ S2 a, h3, HL.app.mpr ⟨S4, S2, h4, h2, fun a q k => hd a ((hs2 a).mpr (.inr q)) k, fun a => Iff.rfl⟩, fun a q k => ?_, fun a => ?_⟩
      · rcases k with k | k
        · exact hd2 a q k
        · exact hd a ((hs2 a).mpr (.inl q)) k
      · rw [hs a, hs2 a, or_assoc]
theorem Sub.all_e : Sub (all M :: L) (M ++ L) := fun H S h => ⟨S, HL.app.mpr h, fun _ q => q⟩
theorem Sub.all_i : Sub (M ++ L) (all M :: L) := fun H S h => ⟨S, HL.app.mp h, fun _ q => q⟩
theorem Ent.all (e : Ent (M ++ L) φ) : Ent (all M :: L) φ := e.sub Sub.all_e
theorem Sub.all (s : Sub L (M ++ N)) : Sub L (all M :: N) := s.trans Sub.all_i
/-- nothing owned: may be used again and again -/
class Pers (A : HA) : Prop where
  no : ∀ {H : Hp} {S : Addr → Prop} {a : Addr}, A.P H S → ¬ S a
instance {p : Prop} : Pers (pu p) := ⟨fun h q => h.2 _ q⟩
theorem Sub.dup [Pers A] : Sub (A :: L) (A :: A :: L) := fun H S ⟨S1, S2, h1, h2, hd, hs⟩ =>
  ⟨S, ⟨S1, S, h1, ⟨S1, S2, h1, h2, hd, hs⟩, fun a q => (Pers.no h1 q).elim, fun a => ⟨.inr, fun z => z.elim (fun z => (hs a).mpr (.inl z)) id⟩⟩, fun _ q => q⟩
theorem take_p [Pers A] : Take A (A :: L) (A :: L) := Sub.dup
theorem Take.keep [Pers A] (t : Take A L R) : Take A L L := fun H S h => by
  obtain ⟨S1, h1, q1⟩ := t H S h
  obtain ⟨S2, S3, h2, _⟩ := h1
  exact ⟨S, ⟨S2, S, h2, h, fun a q => (Pers.no h2 q).elim, fun a => ⟨.inr, fun z => z.elim (fun z => (Pers.no h2 z).elim) id⟩⟩, fun _ q => q⟩
/-! ### places -/
def pt (a : Addr) (o : HO) : HA := ⟨fun H S => H a = some o ∧ Imm o = false ∧ ∀ b, S b ↔ b = a, fun ⟨h, i, s⟩ k => ⟨k a o h (.inl ((s a).mpr rfl)), i, s⟩, fun ⟨h, i, s⟩ q => by
  rw [(s _).mp q]
  exact ⟨o, h, i⟩⟩
/-- one of the things that never change -/
def im (a : Addr) (o : HO) : HA := ⟨fun H S => H a = some o ∧ Imm o = true ∧ ∀ b, ¬ S b, fun ⟨h, i, s⟩ k => ⟨k a o h (.inr i), i, s⟩, fun ⟨_, _, s⟩ q => (s _ q).elim⟩
instance {a : Addr} {o : HO} : Pers (im a o) := ⟨fun h q => h.2.2 _ q⟩
abbrev tu (a : Addr) (xs : List V) : HA := im a (.tup xs)
variable {a p : Addr} {o u : HO}
theorem Holds.pt_get : Holds (pt a o :: L) H → H a = some o := fun ⟨_, _, _, h, _⟩ => h.1
theorem Holds.im_get : Holds (im a o :: L) H → H a = some o := fun ⟨_, _, _, h, _⟩ => h.1
theorem Take.pt (t : Take (pt a o) L R) (h : Holds L H) : H a = some o := (t.to h).pt_get
theorem Take.im (t : Take (im a o) L R) (h : Holds L H) : H a = some o := (t.to h).im_get
theorem Holds.upd (h : Holds (pt a o :: R) H) (hi : Imm u = false) : Holds (pt a u :: R) (upd H a u) := by
  obtain ⟨S, S1, S2, ⟨h1, i1, s1⟩, h2, hd, hs⟩ := h
  refine ⟨S, S1, S2, ⟨upd_same, hi, s1⟩, h2.st fun b ob e q => ?_, hd, hs⟩
  have n : b ≠ a := by
    rintro rfl
    rcases q with q | q
    · exact hd b ((s1 b).mpr rfl) q
    · rw [h1] at e
      cases e
      rw [i1] at q
      cases q
  rw [upd_ne n]
  exact e
theorem HL.free (h : HL L H S) (n : H p = none) (o : HO) : HL L (L2.upd H p o) S := h.st fun b ob e _ => by
  rw [upd_ne (ne_of_none e n)]
  exact e
theorem Holds.new (h : Holds L H) (n : H p = none) (hi : Imm o = false) : Holds (pt p o :: L) (L2.upd H p o) := by
  obtain ⟨S, h⟩ := h
  refine ⟨fun b => b = p ∨ S b, fun b => b = p, S, ⟨upd_same, hi, fun b => Iff.rfl⟩, h.free n o, fun b e q => ?_, fun b => Iff.rfl⟩
  subst e
  obtain ⟨o', e, _⟩ := h.mu q
  rw [n] at e
  cases e
theorem Holds.newI (h : Holds L H) (n : H p = none) (hi : Imm o = true) : Holds (im p o :: L) (L2.upd H p o) := by
  obtain ⟨S, h⟩ := h
  exact ⟨S, fun _ => False, S, ⟨upd_same, hi, fun b q => q⟩, h.free n o, fun b e q => e, fun b => ⟨.inr, fun z => z.elim (fun z => z.elim) id⟩⟩
/-- more stands -/
theorem Holds.same (h : Holds L H) (s : Same H H') : Holds L H' := by
  obtain ⟨S, h⟩ := h
  exact ⟨S, h.st fun b o e _ => s b o e⟩
theorem Holds.addI (h : Holds L H) (e : H p = some o) (hi : Imm o = true) : Holds (im p o :: L) H := by
  obtain ⟨S, h⟩ := h
  exact ⟨S, fun _ => False, S, ⟨e, hi, fun b q => q⟩, h, fun b e q => e, fun b => ⟨.inr, fun z => z.elim (fun z => z.elim) id⟩⟩
end
end Toy
namespace Toy
open PySem L2
/-! ### lists and tuples that are read -/
def sq (K : PySem.W.Frag) (a : Addr) (xs : List V) : HA := ⟨fun H S => (pt a (.lst xs)).P H S ∨ ((∃ o, H a = some (.frz o (.lst xs))) ∨ ∃ (o : Obj) (its : Array Value) (n : Nat), K.lookup a = some o ∧ o.cls = .type "list" ∧ o.dict = none ∧ o.data = .seq its n ∧ its.size ≤ sizeLine ∧ Vals xs its.toList) ∧ ∀ b, ¬ S b,
  fun h k => by
    rcases h with h | ⟨⟨o, h⟩ | h, s⟩
    · exact .inl ((pt a (.lst xs)).st h k)
    · exact .inr ⟨.inl ⟨o, k a _ h (.inr rfl)⟩, s⟩
    · exact .inr ⟨.inr h, s⟩, fun h q => by
    rcases h with h | ⟨_, s⟩
    · exact (pt a (.lst xs)).mu h q
    · exact (s _ q).elim⟩
def tq (K : PySem.W.Frag) (a : Addr) (xs : List V) : HA := ⟨fun H S => SqT K H a xs ∧ ∀ b, ¬ S b, fun ⟨h, s⟩ k => ⟨by
    rcases h with (h | ⟨o, h⟩) | h
    · exact .inl (.inl (k a _ h (.inr rfl)))
    · exact .inl (.inr ⟨o, k a _ h (.inr rfl)⟩)
    · exact .inr h, s⟩, fun ⟨_, s⟩ q => (s _ q).elim⟩
instance {K : PySem.W.Frag} {a : Addr} {xs : List V} : Pers (tq K a xs) := ⟨fun h q => h.2 _ q⟩
/-- xs is read at a wherever L stands -/
def HasL (K : PySem.W.Frag) (L : List HA) (a : Addr) (xs : List V) : Prop := ∀ H, Holds L H → SqL K H a xs
def HasT (K : PySem.W.Frag) (L : List HA) (a : Addr) (xs : List V) : Prop := ∀ H, Holds L H → SqT K H a xs
section
variable {K : PySem.W.Frag} {L M R : List HA} {A B : HA} {σ τ : St} {Q : VK} {D : Ends} {nx bk ct : St → Hp → Prop} {rt : VK} {v x y : V} {te ta tb tc to ti : TE} {t u : TS} {c d : TT} {a b p l : Addr} {xs ys zs : List V} {f : Str} {C dx : Addr} {fs : List (Str × V)} {tas tk : TA}
theorem hasL_pt (h : Take (pt a (.lst xs)) L R) : HasL K L a xs := fun _ q => SqL.of (h.pt q)
theorem hasL_sq (h : Take (sq K a xs) L R) : HasL K L a xs := fun H q => by
  obtain ⟨S, S1, S2, h1, _⟩ := h.to q
  rcases h1 with h | ⟨⟨o, h⟩ | h, s⟩
  · exact SqL.of h.1
  · exact .inl (.inr ⟨o, h⟩)
  · exact .inr h
theorem hasT_tu (h : Take (tu a xs) L R) : HasT K L a xs := fun _ q => SqT.of (h.im q)
theorem hasT_tq (h : Take (tq K a xs) L R) : HasT K L a xs := fun H q => by
  obtain ⟨S, S1, S2, h1, _⟩ := h.to q
  exact h1.1
theorem holds_sq {H : Hp} (h : SqL K H a xs) : Holds [sq K a xs] H := by
  rcases h with (h | ⟨o, h⟩) | h
  · exact ⟨fun b => b = a, fun b => b = a, fun _ => False, .inl ⟨h, rfl, fun b => Iff.rfl⟩, fun _ q => q, fun _ _ q => q, fun b => ⟨.inl, fun z => z.elim id False.elim⟩⟩
  · exact ⟨fun _ => False, fun _ => False, fun _ => False, .inr ⟨.inl ⟨o, h⟩, fun _ q => q⟩, fun _ q => q, fun _ _ q => q, fun b => ⟨.inl, fun z => z.elim id id⟩⟩
  · exact ⟨fun _ => False, fun _ => False, fun _ => False, .inr ⟨.inr h, fun _ q => q⟩, fun _ q => q, fun _ _ q => q, fun b => ⟨.inl, fun z => z.elim id id⟩⟩
theorem holds_nil {H : Hp} : Holds [] H := ⟨fun _ => False, fun _ q => q⟩
/-! ### rules by the written part's name; readings with names -/
section
variable {X : Cx}
theorem cxOf_K {CX : CXT} {P : Program} {w : World} {mg : Str → Option Value} {base : Heap} {N : List Str} {qual : Str} {scope : Scope} {f : Addr} {cd : Value} {A : Around} {outer : List Env} {s : Shared} {H : Hp} {E : XK} : (cxOf CX P w K mg base N qual scope f cd A outer s H E).K = K := rfl
def rLenK (K : PySem.W.Frag) : List V → Hp → VK → Prop := fun xs H Q => ∃ p ys, xs = [.ref p] ∧ (SqL K H p ys ∨ SqT K H p ys) ∧ Q (.int ys.length) H
theorem call_lenK (h : X.K = K := by rfl) : CallR X (.builtin "len") (rLenK K) := h ▸ call_len_seq
def rListK (K : PySem.W.Frag) : List V → Hp → VK → Prop := fun xs H Q => ∃ p ys, xs = [.ref p] ∧ (SqL K H p ys ∨ SqT K H p ys) ∧ ∀ l, H l = none → Q (.ref l) (upd H l (.lst ys))
theorem call_listK (h : X.K = K := by rfl) : CallR X (.type "list") (rListK K) := h ▸ call_list_of
def rTupK (K : PySem.W.Frag) : List V → Hp → VK → Prop := fun xs H Q => ∃ p ys, xs = [.ref p] ∧ ((SqL K H p ys ∧ ∀ l, H l = none → Q (.ref l) (upd H l (.tup ys))) ∨ (SqT K H p ys ∧ Q (.ref p) H))
theorem call_tupK (h : X.K = K := by rfl) : CallR X (.type "tuple") (rTupK K) := h ▸ call_tuple_of
def rDivK : List V → Hp → VK → Prop := fun xs H Q => ∃ i j, xs = [.int i, .int j] ∧ CDiv i j ∧ ∀ p, H p = none → Q (.ref p) (upd H p (.tup [.int (i / j), .int (i % j)]))
theorem call_divK : CallR X (.builtin "divmod") rDivK := call_divmod
end
def kNewT (Q : VK) (xs : List V) (H : Hp) : Prop := xs.length ≤ sizeLine ∧ ∀ p, H p = none → Q (.ref p) (upd H p (.tup xs))
def kNewL (Q : VK) (xs : List V) (H : Hp) : Prop := xs.length ≤ sizeLine ∧ ∀ p, H p = none → Q (.ref p) (upd H p (.lst xs))
def kRgL (Q : VK) (a b : Int) (H : Hp) : Prop := RgOk a b ∧ ∀ q, H q = none → Q (.ref q) (upd H q (.lst (rgV a b)))
def kRgT (Q : VK) (a b : Int) (H : Hp) : Prop := RgOk a b ∧ ∀ q, H q = none → Q (.ref q) (upd H q (.tup (rgV a b)))
def kMake (C : Addr) (sp : Sp) (E : XK) (Q : VK) (vs : List V) (H : Hp) : Prop := ∀ x dx, H x = none → H dx = none → dx ≠ x → sp (.ref x :: vs) (upd (upd H dx (.own x)) x (.ins C dx [])) (fun v H2 => v = .non ∧ Q (.ref x) H2) E
def kMakeK (C : Addr) (j l : Nat) (sp : Sp) (gV : List V → List V → List V) (E : XK) (Q : VK) (vs zs : List V) (H : Hp) : Prop := vs.length = j ∧ zs.length = l ∧ ∀ x dx, H x = none → H dx = none → dx ≠ x → sp (gV (.ref x :: vs) zs) (upd (upd H dx (.own x)) x (.ins C dx [])) (fun v H2 => v = .non ∧ Q (.ref x) H2) E
/-! ### which kind of reading stands -/
theorem gS {t : TS} {D : Ends} (q : Ent L fun H => t D σ H) : Ent L fun H => t D σ H := q
theorem gE {t : TE} (q : Ent L fun H => t σ H Q) : Ent L fun H => t σ H Q := q
theorem gT {t : TT} {Q : Bool → Hp → Prop} (q : Ent L fun H => t σ H Q) : Ent L fun H => t σ H Q := q
theorem gA {t : TA} {Q : List V → Hp → Prop} (q : Ent L fun H => t σ H Q) : Ent L fun H => t σ H Q := q
theorem gR {r : R2} (q : Ent L fun H => r x y H Q) : Ent L fun H => r x y H Q := q
theorem gC {r : List V → Hp → VK → Prop} (q : Ent L fun H => r xs H Q) : Ent L fun H => r xs H Q := q
theorem gM {r : V → List V → Hp → VK → Prop} (q : Ent L fun H => r x xs H Q) : Ent L fun H => r x xs H Q := q
theorem gX {α : Sort _} {p : α → Hp → Prop} (q : Ent L fun H => ∃ x, p x H) : Ent L fun H => ∃ x, p x H := q
theorem gI {c : Prop} [Decidable c] {φ ψ : Hp → Prop} (q : Ent L fun H => if c then φ H else ψ H) : Ent L fun H => if c then φ H else ψ H := q
theorem gN {p : Prop} {φ : Hp → Prop} (q : Ent L fun H => p ∧ φ H) : Ent L fun H => p ∧ φ H := q
theorem gG {v : V} {t : TG} {Q : St → Hp → Prop} (q : Ent L fun H => t v σ H Q) : Ent L fun H => t v σ H Q := q
/-! ### steps that change nothing -/
theorem e_in {N : List Str} {vs : List V} (h : start N vs = σ) (q : Ent L fun H => t D σ H) : Ent L fun H => t D (start N vs) H := by rw [h]; exact q
theorem e_var {i : Nat} (h : σ[i]? = some (some v)) (q : Ent L fun H => Q v H) : Ent L fun H => tVar i σ H Q := fun H hH => ⟨v, h, q H hH⟩
theorem e_c (q : Ent L fun H => Q v H) : Ent L fun H => tC v σ H Q := q
theorem e_op {r : R2} (q : Ent L fun H => ta σ H fun x H1 => tb σ H1 fun y H2 => r x y H2 Q) : Ent L fun H => tOp r ta tb σ H Q := q
theorem e_un {r : V → Hp → VK → Prop} (q : Ent L fun H => ta σ H fun x H1 => r x H1 Q) : Ent L fun H => tUn r ta σ H Q := q
theorem e_I0 {g : Int → Int → V} {i j : Int} (q : Ent L fun H => Q (g i j) H) : Ent L fun H => rI0 g (.int i) (.int j) H Q := fun H h => ⟨i, j, rfl, rfl, q H h⟩
theorem e_I {C : Int → Int → Prop} {g : Int → Int → V} {i j : Int} (hc : C i j) (q : Ent L fun H => Q (g i j) H) : Ent L fun H => rI C g (.int i) (.int j) H Q := fun H h => ⟨i, j, rfl, rfl, hc, q H h⟩
theorem e_U {g : Int → V} {i : Int} (q : Ent L fun H => Q (g i) H) : Ent L fun H => rU g (.int i) H Q := fun H h => ⟨i, rfl, q H h⟩
theorem e_eq (h : scal x y = true) (q : Ent L fun H => Q (.bl (decide (x = y))) H) : Ent L fun H => rEq x y H Q := fun H k => ⟨h, q H k⟩
theorem e_eqII {i j : Int} (q : Ent L fun H => Q (.bl (decide (i = j))) H) : Ent L fun H => rEq (.int i) (.int j) H Q := fun H k => ⟨rfl, by rw [dec_vint]; exact q H k⟩
theorem e_neII {i j : Int} (q : Ent L fun H => Q (.bl (!decide (i = j))) H) : Ent L fun H => rNe (.int i) (.int j) H Q := fun H k => ⟨rfl, by rw [dec_vint]; exact q H k⟩
theorem e_ne (h : scal x y = true) (q : Ent L fun H => Q (.bl (!decide (x = y))) H) : Ent L fun H => rNe x y H Q := fun H k => ⟨h, q H k⟩
theorem e_cb {r : List V → Hp → VK → Prop} (q : Ent L fun H => tas σ H fun vs H1 => r vs H1 Q) : Ent L fun H => tCB r tas σ H Q := q
theorem e_nil {Q : List V → Hp → Prop} (q : Ent L fun H => Q [] H) : Ent L fun H => tNil σ H Q := q
theorem e_cons {Q : List V → Hp → Prop} (q : Ent L fun H => ta σ H fun x H1 => tas σ H1 fun xs H2 => Q (x :: xs) H2) : Ent L fun H => tCons ta tas σ H Q := q
theorem e_call {sp : Sp} {dvs : List V} {E : XK} (q : Ent L fun H => tas σ H fun vs H1 => sp (vs ++ dvs) H1 Q E) : Ent L fun H => tCall sp dvs E tas σ H Q := q
theorem e_callS {sp : Sp} {E : St → XK} (q : Ent L fun H => tas σ H fun vs H1 => sp vs H1 Q (E σ)) : Ent L fun H => tCallS sp E tas σ H Q := q
theorem e_callN {j l : Nat} {sp : Sp} {gV : List V → List V → List V} {E : XK} (q : Ent L fun H => tas σ H fun vs H1 => tk σ H1 fun zs H2 => vs.length = j ∧ zs.length = l ∧ sp (gV vs zs) H2 Q E) : Ent L fun H => tCallN j l sp gV E tas tk σ H Q := q
theorem e_methN {C : Addr} {m : Str} {j l : Nat} {sp : Sp} {gV : List V → List V → List V} {E : XK} (q : Ent L fun H => ta σ H fun x H1 => ∃ a dx fs, x = .ref a ∧ H1 a = some (.ins C dx fs) ∧ fs.lookup m = none ∧ tas σ H1 fun vs H2 => tk σ H2 fun zs H3 => vs.length = j ∧ zs.length = l ∧ sp (gV (x :: vs) zs) H3 Q E) : Ent L fun H => tMethN C m j l sp gV E ta tas tk σ H Q := q
theorem e_methS {C : Addr} {m : Str} {sp : Sp} {E : St → XK} (q : Ent L fun H => ta σ H fun x H1 => ∃ a dx fs, x = .ref a ∧ H1 a = some (.ins C dx fs) ∧ fs.lookup m = none ∧ tas σ H1 fun vs H2 => sp (x :: vs) H2 Q (E σ)) : Ent L fun H => tMethSx C m sp E ta tas σ H Q := q
theorem e_ln {α : Type} {xs : List α} {n : Nat} {φ : Hp → Prop} (h : xs.length = n) (q : Ent L φ) : Ent L fun H => xs.length = n ∧ φ H := fun H k => ⟨h, q H k⟩
theorem e_meth0 {C : Addr} {m : Str} {sp : Sp} {dvs : List V} {E : XK} (q : Ent L fun H => ta σ H fun x H1 => ∃ a dx fs, x = .ref a ∧ H1 a = some (.ins C dx fs) ∧ fs.lookup m = none ∧ tas σ H1 fun vs H2 => sp (x :: (vs ++ dvs)) H2 Q E) : Ent L fun H => tMeth C m sp dvs E ta tas σ H Q := q
theorem e_meth {φ : Hp → Prop} {m : Str} (h : Take (pt a (.ins C dx fs)) L R) (hl : fs.lookup m = none) (q : Ent L φ) : Ent L fun H => ∃ a' dx fs, V.ref a = .ref a' ∧ H a' = some (.ins C dx fs) ∧ fs.lookup m = none ∧ φ H := fun H k => ⟨a, dx, fs, rfl, h.pt k, hl, q H k⟩
theorem e_prop0 {C : Addr} {sp : Sp} {dvs : List V} {E : XK} (q : Ent L fun H => ta σ H fun x H1 => ∃ a dx fs, x = .ref a ∧ H1 a = some (.ins C dx fs) ∧ sp (.ref a :: dvs) H1 Q E) : Ent L fun H => tProp C sp dvs E ta σ H Q := q
theorem e_prop {sp : Sp} {dvs : List V} {E : XK} (h : Take (pt a (.ins C dx fs)) L R) (q : Ent L fun H => sp (.ref a :: dvs) H Q E) : Ent L fun H => ∃ a' dx fs, V.ref a = .ref a' ∧ H a' = some (.ins C dx fs) ∧ sp (.ref a' :: dvs) H Q E := fun H k => ⟨a, dx, fs, rfl, h.pt k, q H k⟩
theorem e_seq (q : Ent L fun H => t ⟨u ⟨nx, rt, bk, ct⟩, rt, bk, ct⟩ σ H) : Ent L fun H => tSeq t u ⟨nx, rt, bk, ct⟩ σ H := q
theorem e_next (q : Ent L fun H => nx σ H) : Ent L fun H => tNext ⟨nx, rt, bk, ct⟩ σ H := q
theorem e_brk (q : Ent L fun H => bk σ H) : Ent L fun H => tBreak ⟨nx, rt, bk, ct⟩ σ H := q
theorem e_cont (q : Ent L fun H => ct σ H) : Ent L fun H => tCont ⟨nx, rt, bk, ct⟩ σ H := q
theorem e_drop (q : Ent L fun H => te σ H fun _ H1 => nx σ H1) : Ent L fun H => tDrop te ⟨nx, rt, bk, ct⟩ σ H := q
theorem e_ret (q : Ent L fun H => te σ H rt) : Ent L fun H => tRet te ⟨nx, rt, bk, ct⟩ σ H := q
theorem e_retN (q : Ent L fun H => rt .non H) : Ent L fun H => tRetN ⟨nx, rt, bk, ct⟩ σ H := q
theorem e_asg {g : TG} (q : Ent L fun H => te σ H fun x H1 => g x σ H1 nx) : Ent L fun H => tAsg te g ⟨nx, rt, bk, ct⟩ σ H := q
theorem e_ifs (q : Ent L fun H => c σ H fun b H1 => if b = true then t ⟨nx, rt, bk, ct⟩ σ H1 else u ⟨nx, rt, bk, ct⟩ σ H1) : Ent L fun H => tIfS c t u ⟨nx, rt, bk, ct⟩ σ H := q
theorem e_par {i j : Nat} (q : Ent L fun H => tas σ H fun vs H1 => ∃ v w, vs = [v, w] ∧ nx ((σ.set i (some v)).set j (some w)) H1) : Ent L fun H => tPar i j tas ⟨nx, rt, bk, ct⟩ σ H := q
theorem e_par3 {i j l : Nat} (q : Ent L fun H => tas σ H fun vs H1 => ∃ u v w, vs = [u, v, w] ∧ nx (((σ.set i (some u)).set j (some v)).set l (some w)) H1) : Ent L fun H => tPar3 i j l tas ⟨nx, rt, bk, ct⟩ σ H := q
theorem e_uvw {u v w : V} {r : V → V → V → Hp → Prop} (q : Ent L (r u v w)) : Ent L fun H => ∃ u' v' w', [u, v, w] = [u', v', w'] ∧ r u' v' w' H := fun H k => ⟨u, v, w, rfl, q H k⟩
theorem e_vw {v w : V} {r : V → V → Hp → Prop} (q : Ent L (r v w)) : Ent L fun H => ∃ v' w', [v, w] = [v', w'] ∧ r v' w' H := fun H k => ⟨v, w, rfl, q H k⟩
theorem e_if0 (q : Ent L fun H => c σ H fun b H1 => if b = true then ta σ H1 Q else tb σ H1 Q) : Ent L fun H => tIf c ta tb σ H Q := q
theorem e_test {Q : Bool → Hp → Prop} (q : Ent L fun H => te σ H fun x H' => ∃ k, x = .bl k ∧ Q k H') : Ent L fun H => tTest te σ H Q := q
theorem e_B {Q : Bool → Hp → Prop} (q : Ent L fun H => te σ H fun x H' => ∃ k, x = .bl k ∧ Q k H') : Ent L fun H => tB te σ H Q := q
theorem e_and {Q : Bool → Hp → Prop} (q : Ent L fun H => c σ H fun b H1 => if b = true then d σ H1 Q else Q false H1) : Ent L fun H => tAnd c d σ H Q := q
theorem e_or {Q : Bool → Hp → Prop} (q : Ent L fun H => c σ H fun b H1 => if b = true then Q true H1 else d σ H1 Q) : Ent L fun H => tOr c d σ H Q := q
theorem e_not {Q : Bool → Hp → Prop} (q : Ent L fun H => c σ H fun b H1 => Q (!b) H1) : Ent L fun H => tNot c σ H Q := q
theorem e_andV (q : Ent L fun H => ta σ H fun x H1 => ∃ k, x = .bl k ∧ if k = true then tb σ H1 Q else Q (.bl false) H1) : Ent L fun H => tAndV ta tb σ H Q := q
theorem e_orV (q : Ent L fun H => ta σ H fun x H1 => ∃ k, x = .bl k ∧ if k = true then Q (.bl true) H1 else tb σ H1 Q) : Ent L fun H => tOrV ta tb σ H Q := q
theorem e_notV (q : Ent L fun H => ta σ H fun x H1 => ∃ k, x = .bl k ∧ Q (.bl (!k)) H1) : Ent L fun H => tNotV ta σ H Q := q
theorem e_bl {b : Bool} {r : Bool → Hp → Prop} (q : Ent L (r b)) : Ent L fun H => ∃ k, V.bl b = .bl k ∧ r k H := fun H k => ⟨b, rfl, q H k⟩
theorem e_iI {i : Int} {r : Int → Hp → Prop} (q : Ent L (r i)) : Ent L fun H => ∃ k, [V.int i] = [.int k] ∧ r k H := fun H k => ⟨i, rfl, q H k⟩
theorem e_iIJ {i j : Int} {r : Int → Int → Hp → Prop} (q : Ent L (r i j)) : Ent L fun H => ∃ k l, [V.int i, V.int j] = [.int k, .int l] ∧ r k l H := fun H k => ⟨i, j, rfl, q H k⟩
theorem e_ei {i : Int} {r : Int → Hp → Prop} (q : Ent L (r i)) : Ent L fun H => ∃ k, V.int i = .int k ∧ r k H := fun H k => ⟨i, rfl, q H k⟩
theorem e_eij {i j : Int} {r : Int → Int → Hp → Prop} (q : Ent L (r i j)) : Ent L fun H => ∃ k l, V.int i = .int k ∧ V.int j = .int l ∧ r k l H := fun H k => ⟨i, j, rfl, rfl, q H k⟩
theorem e_int1 {i : Int} {r : Int → Hp → Prop} {s : Bool → Hp → Prop} (q : Ent L (r i)) : Ent L fun H => (∃ k, [V.int i] = [.int k] ∧ r k H) ∨ ∃ b, [V.int i] = [.bl b] ∧ s b H := fun H k => .inl ⟨i, rfl, q H k⟩
theorem e_intB {b : Bool} {r : Int → Hp → Prop} {s : Bool → Hp → Prop} (q : Ent L (s b)) : Ent L fun H => (∃ k, [V.bl b] = [.int k] ∧ r k H) ∨ ∃ c, [V.bl b] = [.bl c] ∧ s c H := fun H k => .inr ⟨b, rfl, q H k⟩
theorem e_lenL (h : HasL K L a xs) (q : Ent L (Q (.int xs.length))) : Ent L fun H => rLenK K [.ref a] H Q := fun H k => ⟨a, xs, rfl, .inl (h H k), q H k⟩
theorem e_lenT (h : HasT K L a xs) (q : Ent L (Q (.int xs.length))) : Ent L fun H => rLenK K [.ref a] H Q := fun H k => ⟨a, xs, rfl, .inr (h H k), q H k⟩
theorem e_gname {i : Nat} {Q : St → Hp → Prop} (q : Ent L fun H => Q (σ.set i (some v)) H) : Ent L fun H => gName i v σ H Q := q
theorem e_gtup {n : Nat} {ts : TGs} {Q : St → Hp → Prop} (h : HasT K L a xs) (hn : xs.length = n) (q : Ent L fun H => ts xs σ H Q) : Ent L fun H => gTup K n ts (.ref a) σ H Q := fun H k => ⟨a, xs, rfl, h H k, hn, q H k⟩
theorem e_gcons {tg : TG} {ts : TGs} {r : List V} {Q : St → Hp → Prop} (q : Ent L fun H => tg v σ H fun σ' H' => ts r σ' H' Q) : Ent L fun H => gCons tg ts (v :: r) σ H Q := fun H k => ⟨v, r, rfl, q H k⟩
theorem e_gnil {Q : St → Hp → Prop} (q : Ent L fun H => Q σ H) : Ent L fun H => gNil [] σ H Q := fun H k => ⟨rfl, q H k⟩
theorem e_gsub {ts : TSet} {Q : St → Hp → Prop} (q : Ent L fun H => to σ H fun o H1 => ti σ H1 fun i H2 => ts o i v H2 fun H3 => Q σ H3) : Ent L fun H => gSub to ti ts v σ H Q := q
theorem e_fld0 (q : Ent L fun H => ta σ H fun x H1 => kFld K f Q x H1) : Ent L fun H => tFld K ta f σ H Q := q
theorem e_fld (h : Take (pt a (.ins C dx fs)) L R) (hc : Cls K C) (hn : NoAttr K C f) (hl : fs.lookup f = some v) (q : Ent L fun H => Q v H) : Ent L fun H => kFld K f Q (.ref a) H := fun H k => ⟨a, C, dx, fs, v, rfl, h.pt k, hc, hn, hl, q H k⟩
theorem e_sfld0 (q : Ent L fun H => tb σ H fun y H1 => ta σ H1 fun x H2 => kSF K f nx σ y x H2) : Ent L fun H => sFld K ta tb f ⟨nx, rt, bk, ct⟩ σ H := q
theorem e_ixL {i : Int} (h : HasL K L a xs) (hi : atI xs i = some v) (q : Ent L fun H => Q v H) : Ent L fun H => rIxL K (.ref a) (.int i) H Q := fun H k => ⟨a, xs, i, v, rfl, rfl, h H k, hi, q H k⟩
theorem e_ixT {i : Int} (h : HasT K L a xs) (hi : atI xs i = some v) (q : Ent L fun H => Q v H) : Ent L fun H => rIxT K (.ref a) (.int i) H Q := fun H k => ⟨a, xs, i, v, rfl, rfl, h H k, hi, q H k⟩
theorem e_bm {T : String} {r : V → List V → Hp → VK → Prop} (h : Ent L fun H => to σ H fun x H1 => tyV K T x H1 ∧ tas σ H1 fun xs H2 => r x xs H2 Q) : Ent L fun H => tBM K T r to tas σ H Q := h
theorem e_bm0 {T : String} {r : V → List V → Hp → VK → Prop} (h : Ent L fun H => to σ H fun x H1 => tyV K T x H1 ∧ r x [] H1 Q) : Ent L fun H => tBM0 K T r to σ H Q := h
theorem e_tyL {φ : Hp → Prop} (h : HasL K L a xs) (q : Ent L φ) : Ent L fun H => tyV K "list" (.ref a) H ∧ φ H := fun H k => ⟨.inl ⟨rfl, xs, h H k⟩, q H k⟩
theorem e_chain {r r' : R2} (q : Ent L fun H => ta σ H fun x H1 => tb σ H1 fun y H2 => r x y H2 fun z H3 => ∃ k, z = .bl k ∧ (if k = true then tc σ H3 fun w' H4 => r' y w' H4 Q else Q (.bl false) H3)) : Ent L fun H => tChain r r' ta tb tc σ H Q := q
theorem e_sl {r : V → Option Int → Option Int → Hp → VK → Prop} {tl th : TO} (q : Ent L fun H => te σ H fun x H1 => tl σ H1 fun l H2 => th σ H2 fun u H3 => r x l u H3 Q) : Ent L fun H => tSl r te tl th σ H Q := q
theorem e_nopart {Q : Option Int → Hp → Prop} (q : Ent L fun H => Q none H) : Ent L fun H => tNoPart σ H Q := q
theorem e_part {Q : Option Int → Hp → Prop} (q : Ent L fun H => te σ H fun x H1 => ∃ i, x = .int i ∧ Q (some i) H1) : Ent L fun H => tPart te σ H Q := q
theorem e_inL {neg : Bool} {x : V} (h : HasL K L a xs) (h1 : flatV x = true) (h2 : xs.all flatV = true) (q : Ent L fun H => Q (.bl (if neg then !inV x xs else inV x xs)) H) : Ent L fun H => rIn K neg x (.ref a) H Q := fun H k => ⟨a, xs, rfl, .inl (h H k), h1, h2, q H k⟩
theorem e_inT {neg : Bool} {x : V} (h : HasT K L a xs) (h1 : flatV x = true) (h2 : xs.all flatV = true) (q : Ent L fun H => Q (.bl (if neg then !inV x xs else inV x xs)) H) : Ent L fun H => rIn K neg x (.ref a) H Q := fun H k => ⟨a, xs, rfl, .inr (h H k), h1, h2, q H k⟩
theorem e_yes {Q : Bool → Hp → Prop} (q : Ent L fun H => Q true H) : Ent L fun H => tYes σ H Q := q
theorem e_ea {σ2 : L2.St} {vs : List Nat} {φ : Hp → Prop} (h : wipe σ2 vs = wipe σ vs) (q : Ent L φ) : Ent L fun H => wipe σ2 vs = wipe σ vs ∧ φ H := fun H k => ⟨h, q H k⟩
theorem e_isN (q : Ent L fun H => Q (.bl (decide (x = .non))) H) : Ent L fun H => Q (.bl (decide (x = .non))) H := q
theorem e_cut (M : List HA) (τ : St) (q : Ent L fun H => t ⟨fun σ' H' => σ' = τ ∧ Holds M H', rt, bk, ct⟩ σ H) (k : Ent M fun H => u ⟨nx, rt, bk, ct⟩ τ H) : Ent L fun H => Evl.tCut t u ⟨nx, rt, bk, ct⟩ σ H := fun H h =>
  ⟨_, q H h, fun σ' H' ⟨e, z⟩ => by subst e; exact k H' z⟩
theorem e_cutS (M : List HA) (q : Ent L fun H => t ⟨fun σ' H' => σ' = σ ∧ Holds M H', rt, bk, ct⟩ σ H) (k : Ent M fun H => u ⟨nx, rt, bk, ct⟩ σ H) : Ent L fun H => Evl.tCut t u ⟨nx, rt, bk, ct⟩ σ H := e_cut M σ q k
/-- ways joined behind a statement: by what is known of the slots and places -/
theorem e_cutB {β : Type} (sg : β → St) (M : β → List HA) (q : Ent L fun H => t ⟨fun σ' H' => ∃ b, σ' = sg b ∧ Holds (M b) H', rt, bk, ct⟩ σ H) (k : ∀ b, Ent (M b) fun H => u ⟨nx, rt, bk, ct⟩ (sg b) H) : Ent L fun H => Evl.tCut t u ⟨nx, rt, bk, ct⟩ σ H := fun H h =>
  ⟨_, q H h, fun σ' H' ⟨b, e, z⟩ => by subst e; exact k b H' z⟩
theorem e_end {β : Type} {sg : β → St} {M : β → List HA} (b : β) (h : σ = sg b) (s : Sub L (M b)) : Ent L fun H => ∃ b, σ = sg b ∧ Holds (M b) H := fun H q => ⟨b, h, s.to q⟩
theorem e_end1 (h : σ = τ) (s : Sub L M) : Ent L fun H => σ = τ ∧ Holds M H := fun H q => ⟨h, s.to q⟩
theorem e_holds (s : Sub L M) : Ent L (Holds M) := fun H q => s.to q
/-! ### tests -/
theorem eT {φ ψ : Hp → Prop} (q : Ent L φ) : Ent L fun H => if true = true then φ H else ψ H := fun H k => iteT (q H k)
theorem eF {φ ψ : Hp → Prop} (q : Ent L ψ) : Ent L fun H => if false = true then φ H else ψ H := fun H k => iteF (q H k)
theorem eNT {φ ψ : Hp → Prop} (q : Ent L ψ) : Ent L fun H => if (!true) = true then φ H else ψ H := fun H k => iteNT (q H k)
theorem eNF {φ ψ : Hp → Prop} (q : Ent L φ) : Ent L fun H => if (!false) = true then φ H else ψ H := fun H k => iteNF (q H k)
theorem eDT {c : Prop} [Decidable c] {φ ψ : Hp → Prop} (h : c) (q : Ent L φ) : Ent L fun H => if decide c = true then φ H else ψ H := fun H k => ifT h (q H k)
theorem eDF {c : Prop} [Decidable c] {φ ψ : Hp → Prop} (h : ¬ c) (q : Ent L ψ) : Ent L fun H => if decide c = true then φ H else ψ H := fun H k => ifF h (q H k)
theorem eNDT {c : Prop} [Decidable c] {φ ψ : Hp → Prop} (h : c) (q : Ent L ψ) : Ent L fun H => if (!decide c) = true then φ H else ψ H := fun H k => ifT' h (q H k)
theorem eNDF {c : Prop} [Decidable c] {φ ψ : Hp → Prop} (h : ¬ c) (q : Ent L φ) : Ent L fun H => if (!decide c) = true then φ H else ψ H := fun H k => ifF' h (q H k)
theorem eB {b : Bool} {φ ψ : Hp → Prop} (h1 : b = true → Ent L φ) (h2 : b = false → Ent L ψ) : Ent L fun H => if b = true then φ H else ψ H := fun H k => ifB (fun e => h1 e H k) (fun e => h2 e H k)
theorem eS {c : Prop} [Decidable c] {φ ψ : Hp → Prop} (h1 : c → Ent L φ) (h2 : ¬ c → Ent L ψ) : Ent L fun H => if decide c = true then φ H else ψ H := fun H k => ifS (fun e => h1 e H k) (fun e => h2 e H k)
theorem eNS {c : Prop} [Decidable c] {φ ψ : Hp → Prop} (h1 : c → Ent L ψ) (h2 : ¬ c → Ent L φ) : Ent L fun H => if (!decide c) = true then φ H else ψ H := fun H k => ifS' (fun e => h1 e H k) (fun e => h2 e H k)
/-- both ways of a test end alike -/
theorem e_boolD {φ : Bool → Hp → Prop} {b b' : Bool} (h : b = b') (q : Ent L (φ b')) : Ent L (φ b) := h ▸ q
/-! ### steps that change the heap -/
theorem e_tup (q : Ent L fun H => tas σ H (kNewT Q)) : Ent L fun H => tTup tas σ H Q := q
theorem e_lst (q : Ent L fun H => tas σ H (kNewL Q)) : Ent L fun H => tLst tas σ H Q := q
theorem e_newT (h : xs.length ≤ 100000) (q : ∀ p, Ent (tu p xs :: L) (Q (.ref p))) : Ent L fun H => kNewT Q xs H := fun H k => ⟨Nat.le_trans h (by decide), fun p n => q p _ (k.newI n rfl)⟩
theorem e_newL (h : xs.length ≤ 100000) (q : ∀ p, Ent (pt p (.lst xs) :: L) (Q (.ref p))) : Ent L fun H => kNewL Q xs H := fun H k => ⟨Nat.le_trans h (by decide), fun p n => q p _ (k.new n rfl)⟩
theorem e_div {i j : Int} (h : CDiv i j) (q : ∀ p, Ent (tu p [.int (i / j), .int (i % j)] :: L) (Q (.ref p))) : Ent L fun H => rDivK [.int i, .int j] H Q := fun H k => ⟨i, j, rfl, h, fun p n => q p _ (k.newI n rfl)⟩
theorem e_setL {i : Int} {j : Nat} {φ : Hp → Prop} (h : Take (pt a (.lst xs)) L R) (hi : ixN xs.length i = some j) (q : Ent (pt a (.lst (xs.set j v)) :: R) φ) : Ent L fun H => rSetL (.ref a) (.int i) v H φ := fun H k => ⟨a, xs, i, j, rfl, rfl, h.pt k, hi, q _ ((h.to k).upd rfl)⟩
theorem e_sfld {fs' : List (Str × V)} (h : Take (pt a (.ins C dx fs)) L R) (hc : Cls K C) (hn : NoAttr K C f) (hl : fs.length < 1000) (he : putF f y fs = fs') (q : Ent (pt a (.ins C dx fs') :: R) (nx σ)) : Ent L fun H => kSF K f nx σ y (.ref a) H := fun H k =>
  ⟨a, C, dx, fs, rfl, h.pt k, hc, hn, hl, by rw [he]; exact q _ ((h.to k).upd rfl)⟩
theorem e_app {y : V} (h : Take (pt l (.lst xs)) L R) (hz : xs.length ≤ 100000) (q : Ent (pt l (.lst (xs ++ [y])) :: R) (Q .non)) : Ent L fun H => rAppend (.ref l) [y] H Q := fun H k => ⟨l, xs, y, rfl, rfl, h.pt k, Nat.lt_of_le_of_lt hz (by decide), q _ ((h.to k).upd rfl)⟩
theorem e_pop {y : V} (h : Take (pt l (.lst xs)) L R) (hy : xs[xs.length - 1]? = some y) (q : Ent (pt l (.lst xs.dropLast) :: R) (Q y)) : Ent L fun H => rPop (.ref l) [] H Q := fun H k => ⟨l, xs, y, rfl, rfl, h.pt k, hy, q _ ((h.to k).upd rfl)⟩
theorem e_popAt {y : V} {i : Int} {j : Nat} (h : Take (pt l (.lst xs)) L R) (h0 : -1000000 ≤ i ∧ i ≤ 1000000) (hj : seqIndex? i xs.length = some j) (hy : xs[j]? = some y) (q : Ent (pt l (.lst (xs.eraseIdx j)) :: R) (Q y)) : Ent L fun H => rPopAt (.ref l) [.int i] H Q := fun H k => ⟨l, xs, i, j, y, rfl, rfl, h.pt k, by omega, by omega, hj, hy, q _ ((h.to k).upd rfl)⟩
theorem e_ext (h1 : Take (pt l (.lst xs)) L R) (h2 : Take (pt b (.lst zs)) R M) (hz : xs.length + zs.length ≤ 100000) (q : Ent (pt l (.lst (xs ++ zs)) :: R) (Q .non)) : Ent L fun H => rExtend (.ref l) [.ref b] H Q := fun H k => ⟨l, b, xs, zs, rfl, rfl, h1.pt k, h2.pt (Sub.to (Sub.drop Sub.refl) (h1.to k)), Nat.le_trans hz (by decide), q _ ((h1.to k).upd rfl)⟩
theorem e_clear (h : Take (pt l (.lst xs)) L R) (q : Ent (pt l (.lst []) :: R) (Q .non)) : Ent L fun H => rClear (.ref l) [] H Q := fun H k => ⟨l, xs, rfl, rfl, h.pt k, q _ ((h.to k).upd rfl)⟩
theorem e_reverse (h : Take (pt l (.lst xs)) L R) (q : Ent (pt l (.lst xs.reverse) :: R) (Q .non)) : Ent L fun H => rReverse (.ref l) [] H Q := fun H k => ⟨l, xs, rfl, rfl, h.pt k, q _ ((h.to k).upd rfl)⟩
theorem e_cat {R' : List HA} (h1 : Take (pt l (.lst xs)) L R) (h2 : Take (pt b (.lst zs)) L R') (hz : xs.length + zs.length ≤ 100000) (q : ∀ p, Ent (pt p (.lst (xs ++ zs)) :: L) (Q (.ref p))) : Ent L fun H => rCat (.ref l) (.ref b) H Q := fun H k => ⟨l, b, xs, zs, rfl, rfl, h1.pt k, h2.pt k, Nat.le_trans hz (by decide), fun p n => q p _ (k.new n rfl)⟩
theorem e_slL {lo hi : Option Int} (h : HasL K L a xs) (q : ∀ p, Ent (pt p (.lst (cutV xs lo hi)) :: L) (Q (.ref p))) : Ent L fun H => rSlL K (.ref a) lo hi H Q := fun H k => ⟨a, xs, rfl, h H k, fun p n => q p _ (k.new n rfl)⟩
theorem e_slT {lo hi : Option Int} (h : HasT K L a xs) (hw : ¬ (HT.sIx xs.length 0 lo = 0 ∧ HT.sIx xs.length xs.length hi = xs.length)) (q : ∀ p, Ent (tu p (cutV xs lo hi) :: L) (Q (.ref p))) : Ent L fun H => rSlT K (.ref a) lo hi H Q := fun H k => ⟨a, xs, rfl, h H k, hw, fun p n => q p _ (k.newI n rfl)⟩
theorem e_rev0 (q : Ent L fun H => te σ H fun x H1 => kRev K Q x H1) : Ent L fun H => tRevL K te σ H Q := q
theorem e_rev (h : HasL K L a xs) (q : ∀ p, Ent (pt p (.lst xs.reverse) :: L) (Q (.ref p))) : Ent L fun H => kRev K Q (.ref a) H := fun H k => ⟨a, xs, rfl, h H k, fun p n => q p _ (k.new n rfl)⟩
theorem e_rep {k : Int} (h : Take (pt a (.lst xs)) L R) (h1 : -100000 ≤ k) (h2 : k ≤ 100000) (hz : xs.length ≤ 100) (q : ∀ p, Ent (pt p (.lst (List.replicate k.toNat xs).flatten) :: L) (Q (.ref p))) : Ent L fun H => rRep (.ref a) (.int k) H Q := fun H z =>
  w_rep (h.pt z) h1 h2 hz fun p n => q p _ (z.new n rfl)
theorem e_listOf (h : HasL K L a xs) (q : ∀ p, Ent (pt p (.lst xs) :: L) (Q (.ref p))) : Ent L fun H => rListK K [.ref a] H Q := fun H k => ⟨a, xs, rfl, .inl (h H k), fun p n => q p _ (k.new n rfl)⟩
theorem e_listOfT (h : HasT K L a xs) (q : ∀ p, Ent (pt p (.lst xs) :: L) (Q (.ref p))) : Ent L fun H => rListK K [.ref a] H Q := fun H k => ⟨a, xs, rfl, .inr (h H k), fun p n => q p _ (k.new n rfl)⟩
theorem e_tupOf (h : HasL K L a xs) (q : ∀ p, Ent (tu p xs :: L) (Q (.ref p))) : Ent L fun H => rTupK K [.ref a] H Q := fun H k => ⟨a, xs, rfl, .inl ⟨h H k, fun p n => q p _ (k.newI n rfl)⟩⟩
theorem e_tupOfT (h : HasT K L a xs) (q : Ent L (Q (.ref a))) : Ent L fun H => rTupK K [.ref a] H Q := fun H k => ⟨a, xs, rfl, .inr ⟨h H k, q H k⟩⟩
theorem e_lstRg {te : L2.St → Hp → (Int → Int → Hp → Prop) → Prop} (q : Ent L fun H => te σ H (kRgL Q)) : Ent L fun H => tLstRg te σ H Q := q
theorem e_tupRg {te : L2.St → Hp → (Int → Int → Hp → Prop) → Prop} (q : Ent L fun H => te σ H (kRgT Q)) : Ent L fun H => tTupRg te σ H Q := q
theorem e_rgL {i j : Int} (h : 0 ≤ i ∧ j ≤ 16777216 ∧ i ≤ 16777216 ∧ 0 ≤ j) (q : ∀ p, Ent (pt p (.lst (rgV i j)) :: L) (Q (.ref p))) : Ent L fun H => kRgL Q i j H := fun H k => ⟨RgOk.of_le h.1 h.2.1 h.2.2.1 h.2.2.2, fun p n => q p _ (k.new n rfl)⟩
theorem e_rgT {i j : Int} (h : 0 ≤ i ∧ j ≤ 16777216 ∧ i ≤ 16777216 ∧ 0 ≤ j) (q : ∀ p, Ent (tu p (rgV i j) :: L) (Q (.ref p))) : Ent L fun H => kRgT Q i j H := fun H k => ⟨RgOk.of_le h.1 h.2.1 h.2.2.1 h.2.2.2, fun p n => q p _ (k.newI n rfl)⟩
theorem e_rg1 {Q : Int → Int → Hp → Prop} (q : Ent L fun H => ta σ H fun x H1 => ∃ n, x = .int n ∧ Q 0 n H1) : Ent L fun H => tRg1 ta σ H Q := q
theorem e_rg2 {Q : Int → Int → Hp → Prop} (q : Ent L fun H => ta σ H fun x H1 => tb σ H1 fun y H2 => ∃ i j, x = .int i ∧ y = .int j ∧ Q i j H2) : Ent L fun H => tRg2 ta tb σ H Q := q
theorem e_make {sp : Sp} {E : XK} (q : Ent L fun H => tas σ H (kMake C sp E Q)) : Ent L fun H => tMake C sp [] E tas σ H Q := by
  have e : (fun (vs : List V) (H1 : Hp) => ∀ x dx, H1 x = none → H1 dx = none → dx ≠ x → sp (.ref x :: (vs ++ [])) (upd (upd H1 dx (.own x)) x (.ins C dx [])) (fun v H2 => v = .non ∧ Q (.ref x) H2) E) = kMake C sp E Q := by funext vs H1; rw [List.append_nil]; rfl
  show Ent L fun H => tas σ H (fun vs H1 => ∀ x dx, H1 x = none → H1 dx = none → dx ≠ x → sp (.ref x :: (vs ++ [])) (upd (upd H1 dx (.own x)) x (.ins C dx [])) (fun v H2 => v = .non ∧ Q (.ref x) H2) E)
  rw [e]
  exact q
theorem e_makeK {j l : Nat} {sp : Sp} {gV : List V → List V → List V} {E : XK} (q : Ent L fun H => tas σ H fun vs H1 => tk σ H1 (kMakeK C j l sp gV E Q vs)) : Ent L fun H => tMakeK C j l sp gV E tas tk σ H Q := q
theorem holds_ins {H : Hp} {x : Addr} (k : Holds L H) (n1 : H x = none) (n2 : H dx = none) (n3 : dx ≠ x) : Holds (pt x (.ins C dx []) :: L) (upd (upd H dx (.own x)) x (.ins C dx [])) := by
  have k2 := k.newI (o := .own x) n2 rfl
  have n4 : (upd H dx (.own x)) x = none := by rw [upd_ne (Ne.symm n3)]; exact n1
  exact Sub.to (Sub.cons (Sub.drop Sub.refl)) (k2.new (o := .ins C dx []) n4 rfl)
theorem e_new {sp : Sp} {E : XK} {vs : List V} (q : ∀ x dx, Ent (pt x (.ins C dx []) :: L) fun H => sp (.ref x :: vs) H (fun v H2 => v = .non ∧ Q (.ref x) H2) E) : Ent L fun H => kMake C sp E Q vs H := fun H k x dx n1 n2 n3 => q x dx _ (holds_ins k n1 n2 n3)
theorem e_newK {j l : Nat} {sp : Sp} {gV : List V → List V → List V} {E : XK} {vs zs : List V} (h1 : vs.length = j) (h2 : zs.length = l) (q : ∀ x dx, Ent (pt x (.ins C dx []) :: L) fun H => sp (gV (.ref x :: vs) zs) H (fun v H2 => v = .non ∧ Q (.ref x) H2) E) : Ent L fun H => kMakeK C j l sp gV E Q vs zs H := fun H k => ⟨h1, h2, fun x dx n1 n2 n3 => q x dx _ (holds_ins k n1 n2 n3)⟩
theorem e_rfl {φ : Hp → Prop} (q : Ent L φ) : Ent L fun H => x = x ∧ φ H := fun H k => ⟨rfl, q H k⟩
theorem e_eqD {α : Type} [DecidableEq α] {d : α → PyData} {n : Nat} (h : DtOk d n) {i j : α} (h1 : ∀ H, Holds L H → Dp K H x (d i)) (h2 : ∀ H, Holds L H → Dp K H y (d j)) (q : Ent L (Q (.bl (decide (i = j))))) (hn : n ≤ 64 := by decide) : Ent L fun H => rEqD K x y H Q := fun H k => w_eqDt h (h1 H k) (h2 H k) (q H k) hn
theorem e_neD {α : Type} [DecidableEq α] {d : α → PyData} {n : Nat} (h : DtOk d n) {i j : α} (h1 : ∀ H, Holds L H → Dp K H x (d i)) (h2 : ∀ H, Holds L H → Dp K H y (d j)) (q : Ent L (Q (.bl (!decide (i = j))))) (hn : n ≤ 64 := by decide) : Ent L fun H => rNeD K x y H Q := fun H k => w_neDt h (h1 H k) (h2 H k) (q H k) hn
theorem e_eqSame {x y : V} (d : PyData) (h1 : ∀ H, Holds L H → Dp K H x d) (h2 : ∀ H, Holds L H → Dp K H y d) (hl : d.canLay0 = true) (hd : d.depth ≤ 60) (q : Ent L (Q (.bl true))) : Ent L fun H => rEqD K x y H Q := fun H k => w_eqD d (h1 H k) (h2 H k) (shaped_of hl hd (by decide)) (SeqAt.eqv_refl d hl) (q H k)
theorem e_neSame {x y : V} (d : PyData) (h1 : ∀ H, Holds L H → Dp K H x d) (h2 : ∀ H, Holds L H → Dp K H y d) (hl : d.canLay0 = true) (hd : d.depth ≤ 60) (q : Ent L (Q (.bl false))) : Ent L fun H => rNeD K x y H Q := fun H k => w_neD d (h1 H k) (h2 H k) (shaped_of hl hd (by decide)) (SeqAt.eqv_refl d hl) (q H k)
theorem e_eqI {ns ms : List Int} (h1 : HasL K L a (ns.map V.int)) (h2 : HasL K L b (ms.map V.int)) (q : Ent L (Q (.bl (decide (ns = ms))))) : Ent L fun H => rEqD K (.ref a) (.ref b) H Q := e_eqD DtOk.int.list (fun H k => .lst (h1 H k) (ints_dp ns)) (fun H k => .lst (h2 H k) (ints_dp ms)) q
theorem e_neI {ns ms : List Int} (h1 : HasL K L a (ns.map V.int)) (h2 : HasL K L b (ms.map V.int)) (q : Ent L (Q (.bl (!decide (ns = ms))))) : Ent L fun H => rNeD K (.ref a) (.ref b) H Q := e_neD DtOk.int.list (fun H k => .lst (h1 H k) (ints_dp ns)) (fun H k => .lst (h2 H k) (ints_dp ms)) q
theorem e_eqI0 {ns : List Int} (h1 : HasL K L a (ns.map V.int)) (h2 : HasL K L b []) (q : Ent L (Q (.bl (decide (ns = []))))) : Ent L fun H => rEqD K (.ref a) (.ref b) H Q := e_eqI (ms := []) h1 h2 q
theorem e_neI0 {ns : List Int} (h1 : HasL K L a (ns.map V.int)) (h2 : HasL K L b []) (q : Ent L (Q (.bl (!decide (ns = []))))) : Ent L fun H => rNeD K (.ref a) (.ref b) H Q := e_neI (ms := []) h1 h2 q
theorem inV_int (x : Int) : ∀ ns : List Int, inV (.int x) (ns.map V.int) = decide (x ∈ ns)
  | [] => by simp [inV]
  | n :: ns => by
    have ih := inV_int x ns
    unfold inV at ih ⊢
    rw [List.map_cons, List.any_cons, ih]
    by_cases h : n = x
    · subst h; simp [eqV]
    · have h' : ¬ x = n := fun z => h z.symm
      simp [eqV, h, h']
theorem flat_ints (ns : List Int) : (ns.map V.int).all flatV = true := by
  rw [List.all_eq_true]
  intro v hv
  obtain ⟨n, _, rfl⟩ := List.mem_map.mp hv
  rfl
theorem e_inI {ns : List Int} {x : Int} (h : HasL K L a (ns.map V.int)) (q : Ent L (Q (.bl (decide (x ∈ ns))))) : Ent L fun H => rIn K false (.int x) (.ref a) H Q := e_inL h rfl (flat_ints ns) (by rw [inV_int]; exact q)
theorem e_niI {ns : List Int} {x : Int} (h : HasL K L a (ns.map V.int)) (q : Ent L (Q (.bl (!decide (x ∈ ns))))) : Ent L fun H => rIn K true (.int x) (.ref a) H Q := e_inL h rfl (flat_ints ns) (by rw [inV_int]; exact q)
theorem atI_of {α : Type} {xs : List α} {i : Int} {v : α} (h : 0 ≤ i) (e : xs[i.toNat]? = some v) : atI xs i = some v := by
  have hj := (List.getElem?_eq_some_iff.mp e).1
  have z : ((i.toNat : Nat) : Int) = i := by omega
  have q : atI xs ((i.toNat : Nat) : Int) = some v := atI_nat e
  rw [z] at q
  exact q
theorem atI_ofM {α : Type} {xs : List α} {f : α → V} {i : Int} {v : α} (h : 0 ≤ i) (e : xs[i.toNat]? = some v) : atI (xs.map f) i = some (f v) := atI_of h (by rw [List.getElem?_map, e]; rfl)
theorem e_own {sp : Sp} {E : XK} {y : V} {t : Value} (h : ∀ H, Holds L H → ∃ dx fs, H a = some (.ins C dx fs)) (ht : ∀ H, Holds L H → TyX K H y t) (hn : PySem.W.notFirst K C t = true) (q : Ent L fun H => sp [.ref a, y] H (fun v H' => ∃ b, v = .bl b ∧ Q v H') E) : Ent L fun H => rOwn K C sp E (.ref a) y H Q := fun H k => by
  obtain ⟨dx, fs, e⟩ := h H k
  exact ⟨a, dx, fs, t, rfl, e, ht H k, hn, q H k⟩
theorem take_eq {o o' : HO} (e : o = o') (t : Take (pt a o) L R) : Take (pt a o') L R := e ▸ t
theorem take_eqI {o o' : HO} (e : o = o') (t : Take (im a o) L R) : Take (im a o') L R := e ▸ t
/-! ### lists that are an image -/
section
variable {α : Type} {g : α → V} {us ws : List α} {w : α}
def cutA {α : Type} (xs : List α) (lo hi : Option Int) : List α := (xs.drop (HT.sIx xs.length 0 lo)).take (HT.sIx xs.length xs.length hi - HT.sIx xs.length 0 lo)
theorem erase_map : ∀ (us : List α) (j : Nat), (us.map g).eraseIdx j = (us.eraseIdx j).map g
  | [], j => by simp
  | u :: us, 0 => rfl
  | u :: us, j + 1 => by simp [erase_map us j]
theorem cutV_map (lo hi : Option Int) : cutV (us.map g) lo hi = (cutA us lo hi).map g := by
  unfold cutV cutA
  rw [List.length_map, List.map_take, List.map_drop]
theorem cutV_A {xs : List V} (lo hi : Option Int) : cutV xs lo hi = cutA xs lo hi := rfl
theorem cutA_to {j : Int} (h : 0 ≤ j) : cutA us none (some j) = us.take j.toNat := by
  unfold cutA
  rw [HT.sIx_none, sIx_int _ _ _ h]
  by_cases q : j.toNat ≤ us.length
  · rw [Nat.min_eq_left q]; simp
  · rw [Nat.min_eq_right (by omega), List.take_of_length_le (by omega : us.length ≤ j.toNat)]; simp
theorem cutA_from {i : Int} (h : 0 ≤ i) : cutA us (some i) none = us.drop i.toNat := by
  unfold cutA
  rw [HT.sIx_none, sIx_int _ _ _ h]
  by_cases q : i.toNat ≤ us.length
  · rw [Nat.min_eq_left q, List.take_of_length_le (by rw [List.length_drop]; omega)]
  · rw [Nat.min_eq_right (by omega)]
    simp [List.drop_eq_nil_of_le (by omega : us.length ≤ i.toNat)]
theorem cutA_mid {i j : Int} (h : 0 ≤ i) (hj : i ≤ j) : cutA us (some i) (some j) = (us.drop i.toNat).take (j.toNat - i.toNat) := by
  unfold cutA
  rw [sIx_int _ _ _ h, sIx_int _ _ _ (by omega)]
  by_cases q : i.toNat ≤ us.length
  · rw [Nat.min_eq_left q]
    by_cases q2 : j.toNat ≤ us.length
    · rw [Nat.min_eq_left q2]
    · rw [Nat.min_eq_right (by omega), List.take_of_length_le (by rw [List.length_drop]; omega), List.take_of_length_le (by rw [List.length_drop]; omega)]
  · rw [Nat.min_eq_right (by omega)]
    simp [List.drop_eq_nil_of_le (by omega : us.length ≤ i.toNat)]
    exact .inr (by omega)
theorem cutA_all : cutA us none none = us := by unfold cutA; simp [HT.sIx_none]
theorem cutA_last {w : α} : cutA (us ++ [w]) (some (-1)) none = [w] := by
  unfold cutA
  rw [HT.sIx_none]
  have e : HT.sIx (us ++ [w]).length 0 (some (-1)) = us.length := by
    unfold HT.sIx
    simp
    omega
  rw [e]
  simp
theorem cutA_last0 : cutA ([] : List α) (some (-1)) none = [] := by unfold cutA; simp
theorem cutA_init {w : α} : cutA (us ++ [w]) none (some (-1)) = us := by
  unfold cutA
  rw [HT.sIx_none]
  have e : HT.sIx (us ++ [w]).length (us ++ [w]).length (some (-1)) = us.length := by
    unfold HT.sIx
    simp
    omega
  rw [e]
  simp
theorem cutA_h1 {w : α} : cutA (w :: us) none (some 1) = [w] := by rw [cutA_to (by omega)]; rfl
theorem cutA_t1 {w : α} : cutA (w :: us) (some 1) none = us := by rw [cutA_from (by omega)]; rfl
theorem atI_0 {w : α} : atI (w :: us) 0 = some w := atI_of (by omega) rfl
theorem atI_m1 {w : α} : atI (us ++ [w]) (-1) = some w := by
  unfold atI ixN
  rw [if_neg (by omega), if_pos (by rw [List.length_append, List.length_singleton]; omega)]
  have e : (-1 + (((us ++ [w]).length : Nat) : Int)).toNat = us.length := by rw [List.length_append, List.length_singleton]; omega
  rw [e]
  simp
theorem atI_map {i : Int} (h : atI us i = some w) : atI (us.map g) i = some (g w) := by
  unfold atI at h ⊢
  rw [List.length_map]
  cases z : ixN us.length i with
  | none => rw [z] at h; cases h
  | some j =>
    rw [z] at h
    show (us.map g)[j]? = _
    rw [List.getElem?_map]
    have h : us[j]? = some w := h
    rw [h]
    rfl
theorem e_ixM {i : Int} (h : HasL K L a (us.map g)) (hi : atI us i = some w) (q : Ent L fun H => Q (g w) H) : Ent L fun H => rIxL K (.ref a) (.int i) H Q := e_ixL h (atI_map hi) q
theorem e_setM {v : V} {i : Int} {j : Nat} {φ : Hp → Prop} (h : Take (pt a (.lst (us.map g))) L R) (hv : v = g w) (hi : ixN us.length i = some j) (q : Ent (pt a (.lst ((us.set j w).map g)) :: R) φ) : Ent L fun H => rSetL (.ref a) (.int i) v H φ := by
  subst hv
  refine e_setL h (by rw [List.length_map]; exact hi) ?_
  rw [← List.map_set]
  exact q
theorem e_appM {v : V} (h : Take (pt l (.lst (us.map g))) L R) (hv : v = g w) (hz : us.length ≤ 100000) (q : Ent (pt l (.lst ((us ++ [w]).map g)) :: R) (Q .non)) : Ent L fun H => rAppend (.ref l) [v] H Q := by
  subst hv
  refine e_app h (by rw [List.length_map]; exact hz) ?_
  rw [List.map_append] at q
  exact q
theorem e_popM (h : Take (pt l (.lst (us.map g))) L R) (hy : us[us.length - 1]? = some w) (q : Ent (pt l (.lst (us.dropLast.map g)) :: R) (Q (g w))) : Ent L fun H => rPop (.ref l) [] H Q := by
  refine e_pop h (by rw [List.length_map, List.getElem?_map, hy]; rfl) ?_
  rw [List.map_dropLast] at q
  exact q
theorem e_popAtM {i : Int} {j : Nat} (h : Take (pt l (.lst (us.map g))) L R) (h0 : -1000000 ≤ i ∧ i ≤ 1000000) (hj : seqIndex? i us.length = some j) (hy : us[j]? = some w) (q : Ent (pt l (.lst ((us.eraseIdx j).map g)) :: R) (Q (g w))) : Ent L fun H => rPopAt (.ref l) [.int i] H Q := by
  refine e_popAt h h0 (by rw [List.length_map]; exact hj) (by rw [List.getElem?_map, hy]; rfl) ?_
  rw [erase_map] 
  exact q
theorem e_slM {lo hi : Option Int} (h : HasL K L a (us.map g)) (q : ∀ p, Ent (pt p (.lst ((cutA us lo hi).map g)) :: L) (Q (.ref p))) : Ent L fun H => rSlL K (.ref a) lo hi H Q := e_slL h fun p => by rw [cutV_map]; exact q p
theorem e_revM (h : HasL K L a (us.map g)) (q : ∀ p, Ent (pt p (.lst (us.reverse.map g)) :: L) (Q (.ref p))) : Ent L fun H => kRev K Q (.ref a) H := e_rev h fun p => by rw [← List.map_reverse]; exact q p
theorem e_catM {R' : List HA} (h1 : Take (pt l (.lst (us.map g))) L R) (h2 : Take (pt b (.lst (ws.map g))) L R') (hz : us.length + ws.length ≤ 100000) (q : ∀ p, Ent (pt p (.lst ((us ++ ws).map g)) :: L) (Q (.ref p))) : Ent L fun H => rCat (.ref l) (.ref b) H Q := e_cat h1 h2 (by rw [List.length_map, List.length_map]; exact hz) fun p => by rw [← List.map_append]; exact q p
end
theorem ixN_at {α : Type} {us : List α} {i : Int} (h0 : 0 ≤ i) (h1 : i < us.length) : ixN us.length i = some i.toNat := ixN_of h0 h1
theorem e_catT (h1 : HasT K L a xs) (h2 : HasT K L b ys) (hx : xs ≠ []) (hy : ys ≠ []) (hz : xs.length + ys.length ≤ 100000) (q : ∀ p, Ent (tu p (xs ++ ys) :: L) (Q (.ref p))) : Ent L fun H => rCatT K (.ref a) (.ref b) H Q := fun H k =>
  ⟨a, b, xs, ys, rfl, rfl, h1 H k, h2 H k, hx, Nat.le_trans hz (by decide), fun z => (hy z).elim, fun _ p n => q p _ (k.newI n rfl)⟩
theorem e_catT0 (h1 : HasT K L a xs) (h2 : HasT K L b []) (hx : xs ≠ []) (hz : xs.length ≤ 100000) (q : Ent L (Q (.ref a))) : Ent L fun H => rCatT K (.ref a) (.ref b) H Q := fun H k =>
  ⟨a, b, xs, [], rfl, rfl, h1 H k, h2 H k, hx, Nat.le_trans hz (by decide), fun _ => q H k, fun z => (z rfl).elim⟩
theorem e_isi {v w : V} {t u : Value} {r : Bool} (ht : ∀ H, Holds L H → TyX K H v t) (hc : ClsV w u) (hk : PySem.W.kitOne K t u = some r) (q : Ent L (Q (.bl r))) : Ent L fun H => rIsi K [v, w] H Q := fun H k => ⟨v, w, t, u, r, rfl, hc, ht H k, hk, q H k⟩
/-- an instance of C stands at a, without an attribute m -/
def HasI (C : Addr) (L : List HA) (a : Addr) (m : Str) : Prop := ∀ H, Holds L H → ∃ dx fs, H a = some (.ins C dx fs) ∧ fs.lookup m = none
theorem hasI_pt {m : Str} (t : Take (pt a (.ins C dx fs)) L R) (hl : fs.lookup m = none) : HasI C L a m := fun H h => ⟨dx, fs, t.pt h, hl⟩
theorem e_methI {φ : Hp → Prop} {m : Str} (h : HasI C L a m) (q : Ent L φ) : Ent L fun H => ∃ a' dx fs, V.ref a = .ref a' ∧ H a' = some (.ins C dx fs) ∧ fs.lookup m = none ∧ φ H := fun H k => by
  obtain ⟨dx, fs, e, l⟩ := h H k
  exact ⟨a, dx, fs, rfl, e, l, q H k⟩
theorem e_propI {sp : Sp} {dvs : List V} {E : XK} (h : HasI C L a "") (q : Ent L fun H => sp (.ref a :: dvs) H Q E) : Ent L fun H => ∃ a' dx fs, V.ref a = .ref a' ∧ H a' = some (.ins C dx fs) ∧ sp (.ref a' :: dvs) H Q E := fun H k => by
  obtain ⟨dx, fs, e, l⟩ := h H k
  exact ⟨a, dx, fs, rfl, e, q H k⟩
/-! ### loops -/
/-- a walk that yields f i, the heap unchanged, wherever G stands -/
theorem e_loop {β : Type} {J : It} {n : Nat} {G : Hp → Prop} {Y : Nat → Hp → V → Hp → Prop} {g : TG} {tb : TS} (w : Walk J n G Y) (sg : Nat → β → St) (Pv : Nat → β → List HA) (b0 : β) (h0 : σ = sg 0 b0) (s0 : Sub L (Pv 0 b0)) (hG : ∀ i b, Ent (Pv i b) G)
    (hs : ∀ i x b, i < n → ∀ H H', Holds (Pv i b) H → Y i H x H' → g x (sg i b) H' fun σ2 H2 => tb ⟨fun σ' H' => ∃ b, σ' = sg (i + 1) b ∧ Holds (Pv (i + 1) b) H', rt, nx, fun σ' H' => ∃ b, σ' = sg (i + 1) b ∧ Holds (Pv (i + 1) b) H'⟩ σ2 H2)
    (hd : ∀ b, Ent (Pv n b) (nx (sg n b))) : Ent L fun H => kLoop g tb ⟨nx, rt, bk, ct⟩ σ J H := fun H k =>
  w_loop w (fun i σ' H' => ∃ b, σ' = sg i b ∧ Holds (Pv i b) H') ⟨b0, h0, s0.to k⟩ (fun i σ H _ ⟨b, _, z⟩ => hG i b H z) (fun i x σ' H' H'' hi ⟨b, e, z⟩ y => by subst e; exact hs i x b hi H' H'' z y) (fun σ' H' ⟨b, e, z⟩ => by subst e; exact hd b H' z)
theorem e_list {β : Type} {g : TG} {tb : TS} (sg : Nat → β → St) (Pv : Nat → β → List HA) (b0 : β) (h : HasL K L a xs) (h0 : σ = sg 0 b0) (s0 : Sub L (Pv 0 b0)) (hl : ∀ i b, HasL K (Pv i b) a xs)
    (hs : ∀ i x b, xs[i]? = some x → Ent (Pv i b) fun H => g x (sg i b) H fun σ2 H2 => tb ⟨fun σ' H' => ∃ b, σ' = sg (i + 1) b ∧ Holds (Pv (i + 1) b) H', rt, nx, fun σ' H' => ∃ b, σ' = sg (i + 1) b ∧ Holds (Pv (i + 1) b) H'⟩ σ2 H2)
    (hd : ∀ b, Ent (Pv xs.length b) (nx (sg xs.length b))) : Ent L fun H => kFL K g tb ⟨nx, rt, bk, ct⟩ σ (.ref a) H := fun H k =>
  w_list (fun i σ' H' => ∃ b, σ' = sg i b ∧ Holds (Pv i b) H') (h H k) ⟨b0, h0, s0.to k⟩ (fun i σ' H' _ ⟨b, _, z⟩ => hl i b H' z) (fun i x σ' H' hx ⟨b, e, z⟩ => by subst e; exact hs i x b hx H' z) (fun σ' H' ⟨b, e, z⟩ => by subst e; exact hd b H' z)
theorem e_tupl {β : Type} {g : TG} {tb : TS} (sg : Nat → β → St) (Pv : Nat → β → List HA) (b0 : β) (h : HasT K L a xs) (h0 : σ = sg 0 b0) (s0 : Sub L (Pv 0 b0)) (hl : ∀ i b, HasT K (Pv i b) a xs)
    (hs : ∀ i x b, xs[i]? = some x → Ent (Pv i b) fun H => g x (sg i b) H fun σ2 H2 => tb ⟨fun σ' H' => ∃ b, σ' = sg (i + 1) b ∧ Holds (Pv (i + 1) b) H', rt, nx, fun σ' H' => ∃ b, σ' = sg (i + 1) b ∧ Holds (Pv (i + 1) b) H'⟩ σ2 H2)
    (hd : ∀ b, Ent (Pv xs.length b) (nx (sg xs.length b))) : Ent L fun H => kFT K g tb ⟨nx, rt, bk, ct⟩ σ (.ref a) H := fun H k =>
  w_tupl (fun i σ' H' => ∃ b, σ' = sg i b ∧ Holds (Pv i b) H') (h H k) ⟨b0, h0, s0.to k⟩ (fun i σ' H' _ ⟨b, _, z⟩ => hl i b H' z) (fun i x σ' H' hx ⟨b, e, z⟩ => by subst e; exact hs i x b hx H' z) (fun σ' H' ⟨b, e, z⟩ => by subst e; exact hd b H' z)
theorem e_range1 {β : Type} {g : TG} {tb : TS} {j : Int} (sg : Nat → β → St) (Pv : Nat → β → List HA) (b0 : β) (hj : -100000000 ≤ j ∧ j < 100000000) (h0 : σ = sg 0 b0) (s0 : Sub L (Pv 0 b0))
    (hs : ∀ (i : Nat) b, (i : Int) < j → Ent (Pv i b) fun H => g (.int i) (sg i b) H fun σ2 H2 => tb ⟨fun σ' H' => ∃ b, σ' = sg (i + 1) b ∧ Holds (Pv (i + 1) b) H', rt, nx, fun σ' H' => ∃ b, σ' = sg (i + 1) b ∧ Holds (Pv (i + 1) b) H'⟩ σ2 H2)
    (hd : ∀ b, Ent (Pv j.toNat b) (nx (sg j.toNat b))) : Ent L fun H => kR1 g tb ⟨nx, rt, bk, ct⟩ σ [.int j] H := fun H k =>
  w_range1 (fun i σ' H' => ∃ b, σ' = sg i b ∧ Holds (Pv i b) H') hj ⟨b0, h0, s0.to k⟩ (fun i σ' H' hi ⟨b, e, z⟩ => by subst e; exact hs i b hi H' z) (fun σ' H' ⟨b, e, z⟩ => by subst e; exact hd b H' z)
theorem e_forR1 {g : TG} {tb : TS} (q : Ent L fun H => tas σ H fun vs H1 => kR1 g tb ⟨nx, rt, bk, ct⟩ σ vs H1) : Ent L fun H => tFor (iRng1 tas) g tb ⟨nx, rt, bk, ct⟩ σ H := q
theorem e_forL {g : TG} {tb : TS} (q : Ent L fun H => te σ H fun x H1 => kFL K g tb ⟨nx, rt, bk, ct⟩ σ x H1) : Ent L fun H => tFor (iList K te) g tb ⟨nx, rt, bk, ct⟩ σ H := q
theorem e_forT {g : TG} {tb : TS} (q : Ent L fun H => te σ H fun x H1 => kFT K g tb ⟨nx, rt, bk, ct⟩ σ x H1) : Ent L fun H => tFor (iTup K te) g tb ⟨nx, rt, bk, ct⟩ σ H := q
theorem e_forZ {g : TG} {tb : TS} (q : Ent L fun H => tas σ H fun us H1 => kZip K (kLoop g tb ⟨nx, rt, bk, ct⟩ σ) us H1) : Ent L fun H => tFor (iZip K tas) g tb ⟨nx, rt, bk, ct⟩ σ H := q
theorem e_forE {g : TG} {tb : TS} (q : Ent L fun H => tas σ H fun us H1 => kEnum K (kLoop g tb ⟨nx, rt, bk, ct⟩ σ) us H1) : Ent L fun H => tFor (iEnum K tas) g tb ⟨nx, rt, bk, ct⟩ σ H := q
/-! ### comprehensions: kp tells what is kept of an item (nothing: none); owned things stay as they are -/
def kLc (K : PySem.W.Frag) (g : TG) (tt : TT) (te : TE) (vs : List Nat) (σ : St) (Q : VK) (x : V) (H : Hp) : Prop := ∃ a, x = .ref a ∧ (∃ xs, SqL K H a xs) ∧ ∀ D, H D = none → ∃ W : Nat → Nat → Hp → Prop, (∃ m, W 0 m (upd H D (.lst []))) ∧ ∀ i m H, W i m H →
  ((Itl K a).stop i H ∧ Q (.ref D) H) ∨ ((Itl K a).go i H ∧ ∃ Nx : Hp → Prop, (∀ H', Nx H' → ∃ m', m' < m ∧ W (i + 1) m' H') ∧ ∀ x H', (Itl K a).yld i H x H' → g x (wipe σ vs) H' fun σ2 H2 => wipe σ2 vs = wipe σ vs ∧ tt σ2 H2 fun b H3 =>
    if b = true then te σ2 H3 fun y H4 => ∃ acc, H4 D = some (.lst acc) ∧ acc.length < sizeLine ∧ Nx (upd H4 D (.lst (acc ++ [y]))) else Nx H3)
theorem e_lc0 {g : TG} {tt : TT} {vs : List Nat} (q : Ent L fun H => ta σ H fun x H1 => kLc K g tt te vs σ Q x H1) : Ent L fun H => tLc (iList K ta) g tt te vs σ H Q := q
theorem e_lc {α : Type} {g : TG} {tt : TT} {vs : List Nat} (es : List α) (it : α → V) (kp : α → Option V) (h : HasL K L a (es.map it)) (hz : es.length ≤ 100000)
    (step : ∀ e, e ∈ es → ∀ D acc (r : VK) (s : Hp → Prop), (∀ y, kp e = some y → Ent (pt D (.lst acc) :: L) (r y)) → (kp e = none → Ent (pt D (.lst acc) :: L) s) → Ent (pt D (.lst acc) :: L) fun H => g (it e) (wipe σ vs) H fun σ2 H2 => wipe σ2 vs = wipe σ vs ∧ tt σ2 H2 fun b H3 => if b = true then te σ2 H3 r else s H3)
    (q : ∀ D, Ent (pt D (.lst (es.filterMap kp)) :: L) (Q (.ref D))) : Ent L fun H => kLc K g tt te vs σ Q (.ref a) H := fun H k => by
  refine ⟨a, rfl, ⟨_, h H k⟩, fun D nD => ?_⟩
  refine lc_list (K := K) (a := a) (xs := es.map it) (fun i H' => i ≤ es.length ∧ Holds (pt D (.lst ((es.take i).filterMap kp)) :: L) H') ⟨Nat.zero_le _, k.new nD rfl⟩ (fun i H' _ p => h H' (Sub.to (Sub.drop Sub.refl) p.2)) (fun i x H' hx p => ?_) (fun H' p => q D H' (by
    have e := p.2
    rw [List.length_map, List.take_length] at e
    exact e))
  obtain ⟨e, he, hin, rfl⟩ := map_at hx
  have hi : i < es.length := (List.getElem?_eq_some_iff.mp he).1
  have et : es.take (i + 1) = es.take i ++ [e] := by rw [List.take_succ, he]; rfl
  refine step e hin D _ _ _ (fun y hy H4 z => ?_) (fun hn H3 z => ?_) H' p.2
  · refine ⟨_, z.pt_get, Nat.lt_of_le_of_lt (List.length_filterMap_le _ _) (Nat.lt_of_le_of_lt ?_ (by decide : 100000 < sizeLine)), hi, ?_⟩
    · rw [List.length_take]
      omega
    · rw [et, List.filterMap_append]
      simp only [List.filterMap_cons, hy, List.filterMap_nil]
      exact z.upd rfl
  · refine ⟨hi, ?_⟩
    rw [et, List.filterMap_append]
    simp only [List.filterMap_cons, hn, List.filterMap_nil, List.append_nil]
    exact z
end
end Toy
namespace Toy
open PySem L2
/-! ### kinds of things that never change, and lists, tuples of them -/
abbrev KeepI (H H' : Hp) : Prop := Keep (fun _ => False) H H'
theorem Keep.i {S : Addr → Prop} {H H' : Hp} (k : Keep S H H') : KeepI H H' := k.mono fun _ z => z.elim
structure El (K : PySem.W.Frag) (α : Type) where
  P : Hp → V → α → Prop
  st : ∀ {H H' : Hp} {v : V} {x : α}, P H v x → KeepI H H' → P H' v x
  d : α → PyData
  dp : ∀ {H : Hp} {v : V} {x : α}, P H v x → Dp K H v (d x)
inductive All2 {α β : Type} (r : α → β → Prop) : List α → List β → Prop
  | nil : All2 r [] []
  | cons {x : α} {y : β} {xs : List α} {ys : List β} : r x y → All2 r xs ys → All2 r (x :: xs) (y :: ys)
section
variable {α β : Type} {r s : α → β → Prop} {xs xs' : List α} {ys ys' : List β}
theorem All2.imp (f : ∀ x y, r x y → s x y) : ∀ {xs ys}, All2 r xs ys → All2 s xs ys
  | _, _, .nil => .nil
  | _, _, .cons h t => .cons (f _ _ h) (All2.imp f t)
theorem All2.len : ∀ {xs : List α} {ys : List β}, All2 r xs ys → xs.length = ys.length
  | _, _, .nil => rfl
  | _, _, .cons _ t => by simp [All2.len t]
theorem All2.app (h : All2 r xs ys) (k : All2 r xs' ys') : All2 r (xs ++ xs') (ys ++ ys') := by
  induction h with
  | nil => exact k
  | cons h _ ih => exact .cons h ih
theorem All2.one {x : α} {y : β} (h : r x y) : All2 r [x] [y] := .cons h .nil
theorem All2.get : ∀ {xs : List α} {ys : List β} {i : Nat} {x : α}, All2 r xs ys → xs[i]? = some x → ∃ y, ys[i]? = some y ∧ r x y
  | _, _, _, _, .nil, e => by simp at e
  | _, _, 0, _, .cons h _, e => by simp at e; subst e; exact ⟨_, rfl, h⟩
  | _, _, i + 1, x, .cons _ t, e => by
    obtain ⟨y, h1, h2⟩ := All2.get (i := i) (x := x) t (by simpa using e)
    exact ⟨y, by simpa using h1, h2⟩
theorem All2.getR : ∀ {xs : List α} {ys : List β} {i : Nat} {y : β}, All2 r xs ys → ys[i]? = some y → ∃ x, xs[i]? = some x ∧ r x y
  | _, _, _, _, .nil, e => by simp at e
  | _, _, 0, _, .cons h _, e => by simp at e; subst e; exact ⟨_, rfl, h⟩
  | _, _, i + 1, x, .cons _ t, e => by
    obtain ⟨y, h1, h2⟩ := All2.getR (i := i) t (by simpa using e)
    exact ⟨y, by simpa using h1, h2⟩
theorem All2.take : ∀ (n : Nat) {xs : List α} {ys : List β}, All2 r xs ys → All2 r (xs.take n) (ys.take n)
  | 0, _, _, _ => by simp; exact .nil
  | n + 1, _, _, .nil => .nil
  | n + 1, _, _, .cons h t => .cons h (All2.take n t)
theorem All2.drop : ∀ (n : Nat) {xs : List α} {ys : List β}, All2 r xs ys → All2 r (xs.drop n) (ys.drop n)
  | 0, _, _, h => h
  | n + 1, _, _, .nil => .nil
  | n + 1, _, _, .cons h t => All2.drop n t
theorem All2.eraseIdx : ∀ (n : Nat) {xs : List α} {ys : List β}, All2 r xs ys → All2 r (xs.eraseIdx n) (ys.eraseIdx n)
  | _, _, _, .nil => by simp; exact .nil
  | 0, _, _, .cons h t => t
  | n + 1, _, _, .cons h t => .cons h (All2.eraseIdx n t)
theorem All2.set {x : α} {y : β} (q : r x y) : ∀ (n : Nat) {xs : List α} {ys : List β}, All2 r xs ys → All2 r (xs.set n x) (ys.set n y)
  | _, _, _, .nil => by simp; exact .nil
  | 0, _, _, .cons h t => .cons q t
  | n + 1, _, _, .cons h t => .cons h (All2.set q n t)
theorem All2.rev (h : All2 r xs ys) : All2 r xs.reverse ys.reverse := by
  induction h with
  | nil => exact .nil
  | cons h _ ih => simp only [List.reverse_cons]; exact ih.app (.one h)
theorem All2.map (f : β → α) (h : ∀ y ∈ ys, r (f y) y) : All2 r (ys.map f) ys := by
  induction ys with
  | nil => exact .nil
  | cons y ys ih => exact .cons (h y (List.mem_cons_self ..)) (ih fun z hz => h z (List.mem_cons_of_mem _ hz))
end
section
variable {K : PySem.W.Frag} {α β γ δ : Type}
theorem dpAll_of {d : α → PyData} {H : Hp} {vs : List V} {xs : List α} (h : All2 (fun v x => Dp K H v (d x)) vs xs) : DpAll K H vs (xs.map d) := by
  induction h with
  | nil => exact .nil
  | cons h _ ih => exact .cons h ih
def kI : El K Int := ⟨fun _ v n => v = .int n, fun h _ => h, .int, fun h => by subst h; exact .int _⟩
def kB : El K Bool := ⟨fun _ v n => v = .bl n, fun h _ => h, .bool, fun h => by subst h; exact .bl _⟩
def kS : El K Str := ⟨fun _ v n => v = .str n, fun h _ => h, .str, fun h => by subst h; exact .str _⟩
def kO (E : El K α) : El K (Option α) := ⟨fun H v x => match x with | none => v = .non | some y => E.P H v y, fun {H H' v x} h k => by
  cases x with
  | none => exact h
  | some y => exact E.st h k, optD E.d, fun {H v x} h => by
  cases x with
  | none => cases h; exact .non
  | some y => exact E.dp h⟩
/-- a tuple of plain values -/
def kF (f : α → List V) (g : α → List PyData) (hd : ∀ {K : PySem.W.Frag} {H : Hp} (x : α), DpAll K H (f x) (g x)) : El K α := ⟨fun H v x => ∃ t, v = .ref t ∧ H t = some (.tup (f x)), fun ⟨t, e, h⟩ k => ⟨t, e, k t _ h (.inr rfl)⟩, fun x => .tuple (g x), fun ⟨t, e, h⟩ => by
  subst e
  exact .tup (SqT.of h) (hd _)⟩
def kP2 (A : El K α) (B : El K β) : El K (α × β) := ⟨fun H v x => ∃ t u w, v = .ref t ∧ H t = some (.tup [u, w]) ∧ A.P H u x.1 ∧ B.P H w x.2, fun ⟨t, u, w, e, h, a, b⟩ k => ⟨t, u, w, e, k t _ h (.inr rfl), A.st a k, B.st b k⟩, fun x => .tuple [A.d x.1, B.d x.2], fun ⟨t, u, w, e, h, a, b⟩ => by
  subst e
  exact .tup (SqT.of h) (.cons (A.dp a) (.cons (B.dp b) .nil))⟩
def kP3 (A : El K α) (B : El K β) (C : El K γ) : El K (α × β × γ) := ⟨fun H v x => ∃ t u w z, v = .ref t ∧ H t = some (.tup [u, w, z]) ∧ A.P H u x.1 ∧ B.P H w x.2.1 ∧ C.P H z x.2.2, fun ⟨t, u, w, z, e, h, a, b, c⟩ k => ⟨t, u, w, z, e, k t _ h (.inr rfl), A.st a k, B.st b k, C.st c k⟩, fun x => .tuple [A.d x.1, B.d x.2.1, C.d x.2.2], fun ⟨t, u, w, z, e, h, a, b, c⟩ => by
  subst e
  exact .tup (SqT.of h) (.cons (A.dp a) (.cons (B.dp b) (.cons (C.dp c) .nil)))⟩
/-- a tuple of things of one kind -/
theorem sqT_keepI {H H' : Hp} {a : Addr} {xs : List V} (h : SqT K H a xs) (k : KeepI H H') : SqT K H' a xs := by
  rcases h with (h | ⟨o, h⟩) | h
  · exact .inl (.inl (k a _ h (.inr rfl)))
  · exact .inl (.inr ⟨o, k a _ h (.inr rfl)⟩)
  · exact .inr h
def kT (A : El K α) : El K (List α) := ⟨fun H v x => ∃ t us, v = .ref t ∧ SqT K H t us ∧ All2 (A.P H) us x, fun ⟨t, us, e, h, a⟩ k => ⟨t, us, e, sqT_keepI h k, a.imp fun _ _ z => A.st z k⟩, fun x => .tuple (x.map A.d), fun ⟨t, us, e, h, a⟩ => by
  subst e
  exact .tup h (dpAll_of (a.imp fun _ _ z => A.dp z))⟩
/-- v is x, of the kind E -/
def vl (E : El K α) (v : V) (x : α) : HA := ⟨fun H S => E.P H v x ∧ ∀ b, ¬ S b, fun ⟨h, s⟩ k => ⟨E.st h k.i, s⟩, fun ⟨_, s⟩ q => (s _ q).elim⟩
instance {E : El K α} {v : V} {x : α} : Pers (vl E v x) := ⟨fun h q => h.2 _ q⟩
/-- all of vs are the xs, of the kind E -/
def vls (E : El K α) (vs : List V) (xs : List α) : HA := ⟨fun H S => All2 (E.P H) vs xs ∧ ∀ b, ¬ S b, fun ⟨h, s⟩ k => ⟨h.imp fun _ _ z => E.st z k.i, s⟩, fun ⟨_, s⟩ q => (s _ q).elim⟩
instance {E : El K α} {vs : List V} {xs : List α} : Pers (vls E vs xs) := ⟨fun h q => h.2 _ q⟩
/-- a list of things of the kind E stands at l -/
def ls (E : El K α) (l : Addr) (xs : List α) : HA := ⟨fun H S => (∃ vs, H l = some (.lst vs) ∧ All2 (E.P H) vs xs) ∧ ∀ b, S b ↔ b = l, fun {H H' S} ⟨⟨vs, h, a⟩, s⟩ k => ⟨⟨vs, k l _ h (.inl ((s l).mpr rfl)), a.imp fun _ _ z => E.st z k.i⟩, s⟩, fun {H S c} ⟨⟨vs, h, a⟩, s⟩ q => by
  rw [(s c).mp q]
  exact ⟨_, h, rfl⟩⟩
section
variable {E : El K α} {L M R R' : List HA} {l : Addr} {xs ys : List α} {vs : List V} {v : V} {x y : α} {Q : VK} {φ : Hp → Prop} {H : Hp}
/-- opened: its values -/
theorem Sub.ls_e (f : ∀ vs, Sub (pt l (.lst vs) :: vls E vs xs :: L) M) : Sub (ls E l xs :: L) M := fun H S ⟨S1, S2, ⟨⟨vs, h, a⟩, s⟩, h2, hd, hs⟩ =>
  f vs H S ⟨S1, S2, ⟨h, rfl, s⟩, ⟨fun _ => False, S2, ⟨a, fun _ q => q⟩, h2, fun _ q => q.elim, fun a => ⟨.inr, fun z => z.elim (fun z => z.elim) id⟩⟩, hd, hs⟩
theorem Ent.ls_e (e : ∀ vs, vs.length = xs.length → Ent (pt l (.lst vs) :: vls E vs xs :: L) φ) : Ent (ls E l xs :: L) φ := fun H ⟨S, S1, S2, ⟨⟨vs, h, a⟩, s⟩, h2, hd, hs⟩ =>
  e vs a.len H ⟨S, S1, S2, ⟨h, rfl, s⟩, ⟨fun _ => False, S2, ⟨a, fun _ q => q⟩, h2, fun _ q => q.elim, fun a => ⟨.inr, fun z => z.elim (fun z => z.elim) id⟩⟩, hd, hs⟩
/-- closed again -/
theorem Sub.ls_i (a : ∀ H, Holds L H → All2 (E.P H) vs xs) : Sub (pt l (.lst vs) :: L) (ls E l xs :: L) := fun H S ⟨S1, S2, ⟨h, i, s⟩, h2, hd, hs⟩ =>
  ⟨S, ⟨S1, S2, ⟨⟨vs, h, a H ⟨S2, h2⟩⟩, s⟩, h2, hd, hs⟩, fun _ q => q⟩
theorem Take.vl (t : Take (vl E v x) L R) (h : Holds L H) : E.P H v x := by
  obtain ⟨S, S1, S2, h1, _⟩ := t.to h
  exact h1.1
theorem Take.vls (t : Take (vls E vs xs) L R) (h : Holds L H) : All2 (E.P H) vs xs := by
  obtain ⟨S, S1, S2, h1, _⟩ := t.to h
  exact h1.1
theorem Take.ls (t : Take (ls E l xs) L R) (h : Holds L H) : ∃ vs, H l = some (.lst vs) ∧ All2 (E.P H) vs xs := by
  obtain ⟨S, S1, S2, h1, _⟩ := t.to h
  exact h1.1
theorem Holds.vl (h : Holds L H) (e : E.P H v x) : Holds (vl E v x :: L) H := by
  obtain ⟨S, h⟩ := h
  exact ⟨S, fun _ => False, S, ⟨e, fun b q => q⟩, h, fun b e q => e, fun b => ⟨.inr, fun z => z.elim (fun z => z.elim) id⟩⟩
theorem Holds.vls (h : Holds L H) (e : All2 (E.P H) vs xs) : Holds (vls E vs xs :: L) H := by
  obtain ⟨S, h⟩ := h
  exact ⟨S, fun _ => False, S, ⟨e, fun b q => q⟩, h, fun b e q => e, fun b => ⟨.inr, fun z => z.elim (fun z => z.elim) id⟩⟩
theorem Holds.ls_mk (h : Holds (pt l (.lst vs) :: R) H) (e : All2 (E.P H) vs ys) : Holds (ls E l ys :: R) H := by
  obtain ⟨S, S1, S2, ⟨h0, _, s⟩, h2⟩ := h
  exact ⟨S, S1, S2, ⟨⟨vs, h0, e⟩, s⟩, h2⟩
theorem Holds.ls_op (h : Holds (ls E l xs :: R) H) : ∃ ws, Holds (pt l (.lst ws) :: R) H ∧ All2 (E.P H) ws xs := by
  obtain ⟨S, S1, S2, ⟨⟨ws, h0, a⟩, s⟩, h2⟩ := h
  exact ⟨ws, ⟨S, S1, S2, ⟨h0, rfl, s⟩, h2⟩, a⟩
theorem keepI_upd {a : Addr} {o u : HO} (h : H a = some o) (i : Imm o = false) : KeepI H (L2.upd H a u) := fun b ob e q => by
  have n : b ≠ a := by
    rintro rfl
    rw [h] at e
    cases e
    rcases q with q | q
    · exact q.elim
    · rw [i] at q; cases q
  rw [upd_ne n]
  exact e
theorem keepI_new {a : Addr} {u : HO} (h : H a = none) : KeepI H (L2.upd H a u) := fun b ob e q => by
  rw [upd_ne (ne_of_none e h)]
  exact e
/-- the list's content replaced -/
theorem Holds.ls_upd (h : Holds (ls E l xs :: R) H) (e : All2 (E.P H) vs ys) : Holds (ls E l ys :: R) (L2.upd H l (.lst vs)) := by
  obtain ⟨ws, h1, _⟩ := h.ls_op
  have k : KeepI H (L2.upd H l (.lst vs)) := keepI_upd h1.pt_get rfl
  exact (h1.upd rfl).ls_mk (e.imp fun _ _ z => E.st z k)
theorem Holds.ls_new {p : Addr} (h : Holds L H) (n : H p = none) (e : All2 (E.P H) vs xs) : Holds (ls E p xs :: L) (L2.upd H p (.lst vs)) := (h.new n rfl).ls_mk (e.imp fun _ _ z => E.st z (keepI_new n))
theorem Holds.keep_vl (h : Holds (pt l (.lst vs) :: R) H) (e : E.P H v x) {u : HO} : E.P (L2.upd H l u) v x := E.st e (keepI_upd h.pt_get rfl)
/-! steps -/
theorem hasL_ls (t : Take (ls E l xs) L R) (h : Holds L H) : ∃ vs, SqL K H l vs ∧ All2 (E.P H) vs xs := by
  obtain ⟨vs, h1, h2⟩ := t.ls h
  exact ⟨vs, SqL.of h1, h2⟩
theorem e_lenLs (t : Take (ls E l xs) L R) (q : Ent L (Q (.int xs.length))) : Ent L fun H => rLenK K [.ref l] H Q := fun H k => by
  obtain ⟨vs, h1, h2⟩ := hasL_ls t k
  exact ⟨l, vs, rfl, .inl h1, by rw [h2.len]; exact q H k⟩
theorem e_tyLs {φ : Hp → Prop} (t : Take (ls E l xs) L R) (q : Ent L φ) : Ent L fun H => tyV K "list" (.ref l) H ∧ φ H := fun H k => by
  obtain ⟨vs, h1, h2⟩ := hasL_ls t k
  exact ⟨.inl ⟨rfl, vs, h1⟩, q H k⟩
theorem e_appLs (t : Take (ls E l xs) L R) (hy : ∀ H, Holds L H → E.P H v y) (hz : xs.length ≤ 100000) (q : Ent (ls E l (xs ++ [y]) :: R) (Q .non)) : Ent L fun H => rAppend (.ref l) [v] H Q := fun H k => by
  obtain ⟨vs, h1, h2⟩ := t.ls k
  exact ⟨l, vs, v, rfl, rfl, h1, by rw [h2.len]; exact Nat.lt_of_le_of_lt hz (by decide), q _ ((t.to k).ls_upd (h2.app (.one (hy H k))))⟩
theorem e_ixLs {i : Int} (t : Take (ls E l xs) L R) (hi : atI xs i = some x) (q : ∀ v, Ent (vl E v x :: L) (Q v)) : Ent L fun H => rIxL K (.ref l) (.int i) H Q := fun H k => by
  obtain ⟨vs, h1, h2⟩ := t.ls k
  have e := h2.len
  unfold atI at hi
  cases j : ixN xs.length i with
  | none => rw [j] at hi; cases hi
  | some j' =>
    rw [j] at hi
    obtain ⟨v, hv, hp⟩ := h2.getR hi
    exact ⟨l, vs, i, v, rfl, rfl, SqL.of h1, by unfold atI; rw [e, j]; exact hv, q v H (k.vl hp)⟩
theorem e_setLs {i : Int} {j : Nat} {φ : Hp → Prop} (t : Take (ls E l xs) L R) (hi : ixN xs.length i = some j) (hy : ∀ H, Holds L H → E.P H v y) (q : Ent (ls E l (xs.set j y) :: R) φ) : Ent L fun H => rSetL (.ref l) (.int i) v H φ := fun H k => by
  obtain ⟨vs, h1, h2⟩ := t.ls k
  exact ⟨l, vs, i, j, rfl, rfl, h1, by rw [h2.len]; exact hi, q _ ((t.to k).ls_upd (h2.set (hy H k) j))⟩
theorem e_popLs {y : α} (t : Take (ls E l xs) L R) (hy : xs[xs.length - 1]? = some y) (q : ∀ v, Ent (vl E v y :: ls E l xs.dropLast :: R) (Q v)) : Ent L fun H => rPop (.ref l) [] H Q := fun H k => by
  obtain ⟨vs, h1, h2⟩ := t.ls k
  have e := h2.len
  obtain ⟨v, hv, hp⟩ := h2.getR hy
  obtain ⟨ws, h3, _⟩ := (t.to k).ls_op
  refine ⟨l, vs, v, rfl, rfl, h1, by rw [e]; exact hv, q v _ (((t.to k).ls_upd ?_).vl (h3.keep_vl hp))⟩
  rw [List.dropLast_eq_take, List.dropLast_eq_take, e]
  exact h2.take _
theorem e_popAtLs {y : α} {i : Int} {j : Nat} (t : Take (ls E l xs) L R) (h0 : -1000000 ≤ i ∧ i ≤ 1000000) (hj : seqIndex? i xs.length = some j) (hy : xs[j]? = some y) (q : ∀ v, Ent (vl E v y :: ls E l (xs.eraseIdx j) :: R) (Q v)) : Ent L fun H => rPopAt (.ref l) [.int i] H Q := fun H k => by
  obtain ⟨vs, h1, h2⟩ := t.ls k
  obtain ⟨v, hv, hp⟩ := h2.getR hy
  obtain ⟨ws, h3, _⟩ := (t.to k).ls_op
  exact ⟨l, vs, i, j, v, rfl, rfl, h1, by omega, by omega, by rw [h2.len]; exact hj, hv, q v _ (((t.to k).ls_upd (h2.eraseIdx j)).vl (h3.keep_vl hp))⟩
theorem e_clearLs (t : Take (ls E l xs) L R) (q : Ent (ls E l [] :: R) (Q .non)) : Ent L fun H => rClear (.ref l) [] H Q := fun H k => by
  obtain ⟨vs, h1, h2⟩ := t.ls k
  exact ⟨l, vs, rfl, rfl, h1, q _ ((t.to k).ls_upd .nil)⟩
theorem All2.cutV {E : El K α} {vs : List V} {xs : List α} {lo hi : Option Int} (h : All2 (E.P H) vs xs) : ∃ a n, L2.cutV vs lo hi = (vs.drop a).take n ∧ a = HT.sIx xs.length 0 lo ∧ n = HT.sIx xs.length xs.length hi - HT.sIx xs.length 0 lo := by
  unfold L2.cutV
  rw [h.len]
  exact ⟨_, _, rfl, rfl, rfl⟩
theorem e_slLs {lo hi : Option Int} (t : Take (ls E l xs) L R) (q : ∀ p, Ent (ls E p (cutA xs lo hi) :: L) (Q (.ref p))) : Ent L fun H => rSlL K (.ref l) lo hi H Q := fun H k => by
  obtain ⟨vs, h1, h2⟩ := t.ls k
  obtain ⟨a, n, e, e2, e3⟩ := h2.cutV (lo := lo) (hi := hi)
  refine ⟨l, vs, rfl, SqL.of h1, fun p np => q p _ (k.ls_new np ?_)⟩
  rw [e, e2, e3]
  exact (h2.drop _).take _
theorem e_revLs (t : Take (ls E l xs) L R) (q : ∀ p, Ent (ls E p xs.reverse :: L) (Q (.ref p))) : Ent L fun H => kRev K Q (.ref l) H := fun H k => by
  obtain ⟨vs, h1, h2⟩ := t.ls k
  exact ⟨l, vs, rfl, SqL.of h1, fun p np => q p _ (k.ls_new np h2.rev)⟩
theorem e_catLs {b : Addr} (t : Take (ls E l xs) L R) (t2 : Take (ls E b ys) L R') (hz : xs.length + ys.length ≤ 100000) (q : ∀ p, Ent (ls E p (xs ++ ys) :: L) (Q (.ref p))) : Ent L fun H => rCat (.ref l) (.ref b) H Q := fun H k => by
  obtain ⟨vs, h1, h2⟩ := t.ls k
  obtain ⟨ws, h3, h4⟩ := t2.ls k
  exact ⟨l, b, vs, ws, rfl, rfl, h1, h3, by rw [h2.len, h4.len]; exact Nat.le_trans hz (by decide), fun p np => q p _ (k.ls_new np (h2.app h4))⟩
theorem e_listLs (t : Take (ls E l xs) L R) (q : ∀ p, Ent (ls E p xs :: L) (Q (.ref p))) : Ent L fun H => rListK K [.ref l] H Q := fun H k => by
  obtain ⟨vs, h1, h2⟩ := t.ls k
  exact ⟨l, vs, rfl, .inl (SqL.of h1), fun p np => q p _ (k.ls_new np h2)⟩
theorem e_tupLs (t : Take (ls E l xs) L R) (q : ∀ p, Ent (vl (kT E) (.ref p) xs :: L) (Q (.ref p))) : Ent L fun H => rTupK K [.ref l] H Q := fun H k => by
  obtain ⟨vs, h1, h2⟩ := t.ls k
  refine ⟨l, vs, rfl, .inl ⟨SqL.of h1, fun p np => q p _ ?_⟩⟩
  have h3 : Holds L (L2.upd H p (.tup vs)) := Sub.to (Sub.drop Sub.refl) (k.newI (o := .tup vs) np rfl)
  exact h3.vl ⟨p, vs, rfl, SqT.of upd_same, h2.imp fun _ _ z => E.st z (keepI_new np)⟩
theorem dpLs (t : Take (ls E l xs) L R) : ∀ H, Holds L H → Dp K H (.ref l) (.list (xs.map E.d)) := fun H k => by
  obtain ⟨vs, h1, h2⟩ := t.ls k
  exact .lst (SqL.of h1) (dpAll_of (h2.imp fun _ _ z => E.dp z))
theorem dpVl (t : Take (vl E v x) L R) : ∀ H, Holds L H → Dp K H v (E.d x) := fun H k => E.dp (t.vl k)
theorem e_eqLs [DecidableEq α] {n : Nat} {a b : Addr} (h : DtOk E.d n) (t : Take (ls E a xs) L R) (t2 : Take (ls E b ys) L R') (q : Ent L (Q (.bl (decide (xs = ys))))) (hn : n + 1 ≤ 64 := by decide) : Ent L fun H => rEqD K (.ref a) (.ref b) H Q := e_eqD h.list (dpLs t) (dpLs t2) q hn
theorem e_neLs [DecidableEq α] {n : Nat} {a b : Addr} (h : DtOk E.d n) (t : Take (ls E a xs) L R) (t2 : Take (ls E b ys) L R') (q : Ent L (Q (.bl (!decide (xs = ys))))) (hn : n + 1 ≤ 64 := by decide) : Ent L fun H => rNeD K (.ref a) (.ref b) H Q := e_neD h.list (dpLs t) (dpLs t2) q hn
/-- a loop over such a list: the list stands in Pv -/
theorem e_listLs' {β : Type} {g : TG} {tb : TS} {σ : St} {nx bk ct : St → Hp → Prop} {rt : VK} (sg : Nat → β → St) (Pv : Nat → β → List HA) (b0 : β) (h0 : σ = sg 0 b0) (s0 : Sub L (Pv 0 b0)) (hl : ∀ i b, ∃ R, Take (ls E l xs) (Pv i b) R)
    (hs : ∀ i x v b, xs[i]? = some x → Ent (vl E v x :: Pv i b) fun H => g v (sg i b) H fun σ2 H2 => tb ⟨fun σ' H' => ∃ b, σ' = sg (i + 1) b ∧ Holds (Pv (i + 1) b) H', rt, nx, fun σ' H' => ∃ b, σ' = sg (i + 1) b ∧ Holds (Pv (i + 1) b) H'⟩ σ2 H2)
    (hd : ∀ b, Ent (Pv xs.length b) (nx (sg xs.length b))) : Ent L fun H => kFL K g tb ⟨nx, rt, bk, ct⟩ σ (.ref l) H := fun H k => by
  have w : Walk (Itl K l) xs.length (fun H => ∃ vs, H l = some (.lst vs) ∧ All2 (E.P H) vs xs) (fun i H x H' => H' = H ∧ ∃ e, xs[i]? = some e ∧ E.P H x e) :=
    ⟨fun i H hi ⟨vs, h1, h2⟩ => by
      obtain ⟨v, hv, _⟩ := h2.getR (List.getElem?_eq_getElem hi)
      exact ⟨vs, v, SqL.of h1, hv⟩, fun H ⟨vs, h1, h2⟩ => ⟨vs, SqL.of h1, Nat.le_of_eq h2.len⟩, fun i H x H' hi ⟨vs, h1, h2⟩ ⟨e, y⟩ => ⟨e, h2.get (y vs (SqL.of h1))⟩⟩
  obtain ⟨R0, t0⟩ := hl 0 b0
  obtain ⟨vs, h1, h2⟩ := t0.ls (s0.to k)
  have z := for_it w (D := ⟨nx, rt, bk, ct⟩) (g := g) (tb := tb) (σ := σ) (H := H) (fun i σ' H' => ∃ b, σ' = sg i b ∧ Holds (Pv i b) H') ⟨b0, h0, s0.to k⟩ (fun i σ' H' _ ⟨b, _, z⟩ => by
    obtain ⟨R, t⟩ := hl i b
    exact t.ls z) (fun i x σ' H' H'' hi ⟨b, e, z⟩ ⟨e2, y, hy, hp⟩ => by subst e e2; exact hs i y x b hy H'' (z.vl hp)) (fun σ' H' ⟨b, e, z⟩ => by subst e; exact hd b H' z)
  have h3 : H l = some (.lst vs) := h1
  exact ⟨l, rfl, ⟨vs, SqL.of h3⟩, z⟩
theorem walk_ls (l : Addr) (xs : List α) : Walk (Itl K l) xs.length (fun H => ∃ vs, H l = some (.lst vs) ∧ All2 (E.P H) vs xs) (fun i H x H' => H' = H ∧ ∃ e, xs[i]? = some e ∧ E.P H x e) :=
  ⟨fun i H hi ⟨vs, h1, h2⟩ => by
    obtain ⟨v, hv, _⟩ := h2.getR (List.getElem?_eq_getElem hi)
    exact ⟨vs, v, SqL.of h1, hv⟩, fun H ⟨vs, h1, h2⟩ => ⟨vs, SqL.of h1, Nat.le_of_eq h2.len⟩, fun i H x H' hi ⟨vs, h1, h2⟩ ⟨e, y⟩ => ⟨e, h2.get (y vs (SqL.of h1))⟩⟩
/-- a comprehension over such a list, what it makes told by another kind -/
theorem e_lcLs {β : Type} {σ : St} {g : TG} {tt : TT} {te : TE} {vs : List Nat} (E' : El K β) (kp : α → Option β) (t : Take (ls E l xs) L R) (hz : xs.length ≤ 100000)
    (step : ∀ x, x ∈ xs → ∀ v D ys (r : VK) (s : Hp → Prop), (∀ v' y, kp x = some y → Ent (vl E' v' y :: ls E' D ys :: L) (r v')) → (kp x = none → Ent (ls E' D ys :: L) s) → Ent (vl E v x :: ls E' D ys :: L) fun H => g v (wipe σ vs) H fun σ2 H2 => wipe σ2 vs = wipe σ vs ∧ tt σ2 H2 fun b H3 => if b = true then te σ2 H3 r else s H3)
    (q : ∀ D, Ent (ls E' D (xs.filterMap kp) :: L) (Q (.ref D))) : Ent L fun H => kLc K g tt te vs σ Q (.ref l) H := fun H k => by
  obtain ⟨ws, h1, h2⟩ := t.ls k
  refine ⟨l, rfl, ⟨ws, SqL.of h1⟩, fun D nD => ?_⟩
  refine lc_it (walk_ls (E := E) l xs) (fun i H' => i ≤ xs.length ∧ Holds (ls E' D ((xs.take i).filterMap kp) :: L) H') ⟨Nat.zero_le _, k.ls_new nD .nil⟩ (fun i H' _ p => t.ls (Sub.to (Sub.drop Sub.refl) p.2)) (fun i v H' H'' hi p ⟨e, x, hx, hp⟩ => ?_) (fun H' p => q D H' (by
    have e := p.2
    rw [List.take_length] at e
    exact e))
  subst e
  have et : xs.take (i + 1) = xs.take i ++ [x] := by rw [List.take_succ, hx]; rfl
  refine step x (List.mem_of_getElem? hx) v D _ _ _ (fun v' y hy H4 z => ?_) (fun hn H3 z => ?_) _ (p.2.vl hp)
  · obtain ⟨ac, z1, z2⟩ := Holds.ls_op (Sub.to (Sub.drop Sub.refl) z)
    have z3 : E'.P H4 v' y := Take.vl take_here z
    refine ⟨ac, z1.pt_get, ?_, hi, ?_⟩
    · rw [z2.len]
      refine Nat.lt_of_le_of_lt (List.length_filterMap_le _ _) (Nat.lt_of_le_of_lt ?_ (by decide : 100000 < sizeLine))
      rw [List.length_take]
      omega
    · rw [et, List.filterMap_append]
      simp only [List.filterMap_cons, hy, List.filterMap_nil]
      exact Holds.ls_upd (Sub.to (Sub.drop Sub.refl) z) (z2.app (.one z3))
  · refine ⟨hi, ?_⟩
    rw [et, List.filterMap_append]
    simp only [List.filterMap_cons, hn, List.filterMap_nil, List.append_nil]
    exact z
theorem all2_maps {γ δ ε : Type} {r : γ → δ → Prop} {f : γ → ε} {g : δ → ε} (e : ∀ x y, r x y → f x = g y) : ∀ {xs : List γ} {ys : List δ}, All2 r xs ys → xs.map f = ys.map g
  | _, _, .nil => rfl
  | _, _, .cons h t => by rw [List.map_cons, List.map_cons, e _ _ h, all2_maps e t]
theorem all2_int : ∀ {vs : List V} {ns : List Int}, All2 (fun v (n : Int) => v = .int n) vs ns → vs = ns.map V.int
  | _, _, .nil => rfl
  | _, _, .cons h t => by rw [List.map_cons, h, all2_int t]
/-- ints, texts as such a list, and back -/
theorem Sub.lsI {ns : List Int} : Sub (pt l (.lst (ns.map V.int)) :: L) (ls (K := K) kI l ns :: L) := Sub.ls_i fun H h => All2.map _ fun y _ => rfl
theorem Sub.Ils {ns : List Int} : Sub (ls (K := K) kI l ns :: L) (pt l (.lst (ns.map V.int)) :: L) := Sub.ls_e fun vs H S h => by
  obtain ⟨S1, S2, h1, ⟨S3, S4, h3, h4⟩, hd, hs⟩ := h
  have e : vs = ns.map V.int := all2_int h3.1
  subst e
  exact (Sub.cons (Sub.drop Sub.refl)) H S ⟨S1, S2, h1, ⟨S3, S4, h3, h4⟩, hd, hs⟩
theorem take_lsI {ns : List Int} (t : Take (pt l (.lst (ns.map V.int))) L R) : Take (ls (K := K) kI l ns) L R := Sub.trans t Sub.lsI
theorem take_Ils {ns : List Int} (t : Take (ls (K := K) kI l ns) L R) : Take (pt l (.lst (ns.map V.int))) L R := Sub.trans t Sub.Ils
/-- what is made of two, three -/
theorem Ent.vI {n : Int} {φ : V → Hp → Prop} (q : Ent L (φ (.int n))) (v : V) : Ent (vl (K := K) kI v n :: L) (φ v) := fun H ⟨S, S1, S2, h1, h2, _⟩ => by
  obtain rfl : v = .int n := h1.1
  exact q H ⟨S2, h2⟩
theorem Ent.vF {f : α → List V} {g : α → List PyData} {hd : ∀ {K : PySem.W.Frag} {H : Hp} (x : α), DpAll K H (f x) (g x)} {φ : V → Hp → Prop} (q : ∀ t, Ent (tu t (f x) :: L) (φ (.ref t))) (v : V) : Ent (vl (K := K) (kF f g hd) v x :: L) (φ v) := fun H ⟨S, S1, S2, ⟨⟨t, e, h⟩, s⟩, h2, hd, hs⟩ => by
  subst e
  exact q t H (Holds.addI ⟨S2, h2⟩ h rfl)
theorem Ent.vT {us : List V} {φ : Hp → Prop} (h : ∀ H, E.P H v x → ∃ t, v = .ref t ∧ H t = some (.tup us)) (q : ∀ t, v = .ref t → Ent (tu t us :: L) φ) : Ent (vl E v x :: L) φ := fun H ⟨S, S1, S2, ⟨h0, s⟩, h2, hd, hs⟩ => by
  obtain ⟨t, e, h⟩ := h H h0
  exact q t e H (Holds.addI ⟨S2, h2⟩ h rfl)
theorem Ent.vIe {n : Int} {φ : Hp → Prop} (q : v = .int n → Ent L φ) : Ent (vl (K := K) kI v n :: L) φ := fun H ⟨S, S1, S2, h1, h2, _⟩ => q h1.1 H ⟨S2, h2⟩
theorem vl_I {n : Int} : ∀ H, Holds L H → (kI (K := K)).P H (.int n) n := fun _ _ => rfl
theorem vl_F {f : α → List V} {g : α → List PyData} {hd : ∀ {K : PySem.W.Frag} {H : Hp} (x : α), DpAll K H (f x) (g x)} {t : Addr} {us : List V} (k : Take (tu t us) L R) (e : us = f x) : ∀ H, Holds L H → (kF (K := K) f g hd).P H (.ref t) x := fun H h => ⟨t, rfl, by rw [← e]; exact k.im h⟩
theorem vl_T {t : Addr} {us : List V} (k : Take (tu t us) L R) (e : ∀ H, H t = some (.tup us) → E.P H (.ref t) x) : ∀ H, Holds L H → E.P H (.ref t) x := fun H h => e H (k.im h)
theorem vl_v (k : Take (vl E v x) L R) : ∀ H, Holds L H → E.P H v x := fun H h => k.vl h
theorem vl_non : ∀ H, Holds L H → (kO E).P H .non none := fun _ _ => rfl
theorem Sub.one {t : Addr} {D : Addr} (k : ∀ H, Holds L H → E.P H v x) : Sub (pt D (.lst [v]) :: L) (ls E D [x] :: L) := Sub.ls_i fun H h => .one (k H h)
theorem take_eqLs {D : Addr} (e : xs = ys) (t : Take (ls E D xs) L R) : Take (ls E D ys) L R := e ▸ t
theorem take_eqVl (e : x = y) (t : Take (vl E v x) L R) : Take (vl E v y) L R := e ▸ t
theorem Sub.vl_i (h : ∀ H, Holds L H → E.P H v x) (s : Sub L M) : Sub L (vl E v x :: M) := fun H S k => by
  obtain ⟨S', k', q⟩ := s H S k
  exact ⟨S', ⟨fun _ => False, S', ⟨h H ⟨S, k⟩, fun _ z => z⟩, k', fun _ z => z.elim, fun a => ⟨.inr, fun z => z.elim (fun z => z.elim) id⟩⟩, q⟩
theorem take_ls0 {D : Addr} (t : Take (pt D (.lst [])) L R) : Take (ls E D []) L R := Sub.trans t (Sub.ls_i fun H h => .nil)
theorem take_ls1 {D : Addr} (t : Take (pt D (.lst [v])) L R) (k : ∀ H, Holds R H → E.P H v x) : Take (ls E D [x]) L R := Sub.trans t (Sub.ls_i fun H h => .one (k H h))
theorem Sub.none_ls {D : Addr} : Sub (pt D (.lst []) :: L) (ls E D [] :: L) := Sub.ls_i fun H h => .nil
end
end
end Toy
namespace Toy
open PySem L2
section
variable {K : PySem.W.Frag} {L M R : List HA} {σ : St} {Q : VK} {ta : TE} {tas tk : TA} {sp : Sp} {E : XK} {C : Addr} {m : Str}
theorem e_call1 (q : Ent L fun H => tas σ H fun vs H1 => sp vs H1 Q E) : Ent L fun H => tCall sp [] E tas σ H Q := by
  have e : (fun (vs : List V) (H1 : Hp) => sp (vs ++ []) H1 Q E) = fun vs H1 => sp vs H1 Q E := by funext vs H1; rw [List.append_nil]
  show Ent L fun H => tas σ H (fun vs H1 => sp (vs ++ []) H1 Q E)
  rw [e]; exact q
theorem e_meth1 (q : Ent L fun H => ta σ H fun x H1 => ∃ a dx fs, x = .ref a ∧ H1 a = some (.ins C dx fs) ∧ fs.lookup m = none ∧ tas σ H1 fun vs H2 => sp (x :: vs) H2 Q E) : Ent L fun H => tMeth C m sp [] E ta tas σ H Q := by
  have e : ∀ x : V, (fun (vs : List V) (H1 : Hp) => sp (x :: (vs ++ [])) H1 Q E) = fun vs H1 => sp (x :: vs) H1 Q E := fun x => by funext vs H1; rw [List.append_nil]
  show Ent L fun H => ta σ H fun x H1 => ∃ a dx fs, x = .ref a ∧ H1 a = some (.ins C dx fs) ∧ fs.lookup m = none ∧ tas σ H1 fun vs H2 => sp (x :: (vs ++ [])) H2 Q E
  simp only [e]; exact q
/-! ### the pot -/
def PotA (p : Addr) : HA := ex fun x : Int => ex fun y : Int => all [pt p (.lst [.int x, .int y]), pu (0 ≤ x ∧ 0 ≤ y ∧ y < 4294967296)]
theorem Sub.pot {L : List HA} {p : Addr} {x y : Int} (h : 0 ≤ x ∧ 0 ≤ y ∧ y < 4294967296) : Sub (pt p (.lst [.int x, .int y]) :: L) (PotA p :: L) := Sub.ex x (Sub.ex y (Sub.all (Sub.cons (Sub.pu h Sub.refl))))
theorem Ent.pot {L : List HA} {p : Addr} {φ : Hp → Prop} (e : ∀ x y : Int, 0 ≤ x → 0 ≤ y → y < 4294967296 → Ent (pt p (.lst [.int x, .int y]) :: L) φ) : Ent (PotA p :: L) φ := Ent.ex fun x => Ent.ex fun y => Ent.all (Ent.sub Sub.swap (Ent.pu fun ⟨h1, h2, h3⟩ => e x y h1 h2 h3))
def aPot (K : PySem.W.Frag) : Sp := fun vs H Q _ => ∃ (s : Addr) (ns : List Int) (k : Int) (F : List HA), vs = [.ref s, .int k] ∧ Holds (sq K s (ns.map V.int) :: F) H ∧ 0 ≤ k ∧ k ≤ 1000 ∧ ∀ p, Ent (PotA p :: sq K s (ns.map V.int) :: F) (Q (.ref p))
def aDraw : Sp := fun vs H Q _ => ∃ (p : Addr) (n : Int) (F : List HA), vs = [.ref p, .int n] ∧ Holds (PotA p :: F) H ∧ 0 < n ∧ n < 1000000000 ∧ ∀ d, 0 ≤ d → d < n → Ent (PotA p :: F) (Q (.int d))
def aPick (K : PySem.W.Frag) : Sp := fun vs H Q _ => ∃ (p s : Addr) (n : Nat) (F : List HA) (G : Nat → V → List HA), vs = [.ref p, .ref s] ∧ Holds (PotA p :: F) H ∧ 0 < n ∧ n < 1000000000 ∧
  (∀ H, Holds (PotA p :: F) H → ∃ us, us.length = n ∧ SqL K H s us ∧ ∀ d v, us[d]? = some v → Holds (G d v) H) ∧ ∀ d v, d < n → Ent (G d v) (Q v)
variable {p s : Addr} {ns : List Int} {k n : Int}
theorem e_pot (t : Take (sq K s (ns.map V.int)) L R) (h0 : 0 ≤ k) (h1 : k ≤ 1000) (q : ∀ p, Ent (PotA p :: sq K s (ns.map V.int) :: R) (Q (.ref p))) : Ent L fun H => aPot K [.ref s, .int k] H Q E := fun H h => ⟨s, ns, k, R, rfl, t.to h, h0, h1, q⟩
theorem e_draw (t : Take (PotA p) L R) (h0 : 0 < n) (h1 : n < 1000000000) (q : ∀ d, 0 ≤ d → d < n → Ent (PotA p :: R) (Q (.int d))) : Ent L fun H => aDraw [.ref p, .int n] H Q E := fun H h => ⟨p, n, R, rfl, t.to h, h0, h1, q⟩
theorem e_pick {us : List V} (t : Take (PotA p) L R) (hl : HasL K R s us) (h0 : 0 < us.length) (h1 : us.length < 1000000000) (q : ∀ (d : Nat) v, us[d]? = some v → Ent (PotA p :: R) (Q v)) : Ent L fun H => aPick K [.ref p, .ref s] H Q E := fun H h =>
  ⟨p, s, us.length, R, fun d v => [pu (us[d]? = some v), all (PotA p :: R)], rfl, t.to h, h0, h1, fun H h => ⟨us, rfl, hl H (Sub.to (Sub.drop Sub.refl) h), fun d v e => Sub.to (Sub.pu e (Sub.all (by show Sub _ ((PotA p :: R) ++ []); rw [List.append_nil]; exact Sub.refl))) h⟩, fun d v _ => Ent.pu fun e => Ent.all (by rw [List.append_nil]; exact q d v e)⟩
theorem e_pickLs {α : Type} {El : El K α} {xs : List α} {R' : List HA} (t : Take (PotA p) L R) (hl : Take (ls El s xs) R R') (h0 : 0 < xs.length) (h1 : xs.length < 1000000000) (q : ∀ (d : Nat) x v, xs[d]? = some x → Ent (vl El v x :: PotA p :: R) (Q v)) : Ent L fun H => aPick K [.ref p, .ref s] H Q E := fun H h =>
  ⟨p, s, xs.length, R, fun d v => [ex fun x => all [pu (xs[d]? = some x), vl El v x, all (PotA p :: R)]], rfl, t.to h, h0, h1, fun H h => by
    obtain ⟨us, h1, h2⟩ := hl.ls (Sub.to (Sub.drop Sub.refl) h)
    refine ⟨us, h2.len, SqL.of h1, fun d v e => ?_⟩
    obtain ⟨x, hx, hp⟩ := h2.get e
    exact Sub.to (Sub.ex x (Sub.all (Sub.pu hx (Sub.cons (Sub.all (by show Sub _ ((PotA p :: R) ++ []); rw [List.append_nil]; exact Sub.refl)))))) (h.vl hp), fun d v _ => Ent.ex fun x => Ent.all (Ent.pu fun e => (by
    refine Ent.sub (M := vl El v x :: PotA p :: R) (Sub.cons ?_) (q d x v e)
    refine Sub.trans Sub.all_e ?_
    show Sub ((PotA p :: R) ++ []) _
    rw [List.append_nil]
    exact Sub.refl))⟩
/-! ### what is asked of plain values -/
variable {v : V} {b : Bool} {x y z u : Int}
theorem e_isInt (h : KInt K (fun _ => none) v b) (q : Ent L (Q (.bl b))) : True := trivial
theorem kintI {H : Hp} (n : Int) : KInt K H (.int n) true := kint_int n
theorem e_integer (q : Ent L (Q (.bl true))) : Ent L fun H => spInt K [.int x] H Q E := fun H h => ⟨_, _, rfl, kint_int x, q H h⟩
theorem e_count (q : Ent L (Q (.bl (decide (0 ≤ x))))) : Ent L fun H => spCount K [.int x] H Q E := fun H h => ⟨_, rfl, kint_int x, q H h⟩
theorem e_isWord (q : Ent L (Q (.bl (isWord (.int x))))) : Ent L fun H => spIsWord K [.int x] H Q E := fun H h => ⟨_, rfl, kint_int x, q H h⟩
theorem e_wantWord (h : W16 x) (q : Ent L (Q .non)) : Ent L fun H => spWantWord K C [.int x] H Q E := fun H k => w_wantWord h (q H k)
theorem e_wantMany {lo hi : Int} (h0 : 0 ≤ x) (h1 : lo ≤ x) (h2 : x ≤ hi) (q : Ent L (Q .non)) : Ent L fun H => spWantMany K C [.int x, .int lo, .int hi] H Q E := fun H k => w_wantMany h0 h1 h2 (q H k)
theorem e_W2 {f : Int → Int → Int} {ok : Int → Int → Prop} (h : ok x y) (q : Ent L (Q (.int (f x y)))) : Ent L fun H => spW2 f ok [.int x, .int y] H Q E := fun H k => ⟨x, y, rfl, h, q H k⟩
theorem e_I1 {f : Int → Int} {ok : Int → Prop} (h : ok x) (q : Ent L (Q (.int (f x)))) : Ent L fun H => spI1 f ok [.int x] H Q E := fun H k => ⟨x, rfl, h, q H k⟩
theorem e_I3 {f : Int → Int → Int → Int} {ok : Int → Int → Int → Prop} (h : ok x y z) (q : Ent L (Q (.int (f x y z)))) : Ent L fun H => spI3 f ok [.int x, .int y, .int z] H Q E := fun H k => ⟨x, y, z, rfl, h, q H k⟩
theorem e_I4 {f : Int → Int → Int → Int → Int} {ok : Int → Int → Int → Int → Prop} (h : ok x y z u) (q : Ent L (Q (.int (f x y z u)))) : Ent L fun H => spI4 f ok [.int x, .int y, .int z, .int u] H Q E := fun H k => ⟨x, y, z, u, rfl, h, q H k⟩
/-- a number asked for: True where ok; a def that returns a bool of ints -/
def aB1 (f : Int → Bool) : Sp := fun vs H Q _ => ∃ x : Int, vs = [.int x] ∧ Q (.bl (f x)) H
def aW1 (ok : Int → Prop) : Sp := fun vs H Q _ => ∃ x : Int, vs = [.int x] ∧ ok x ∧ Q .non H
theorem e_B1 {f : Int → Bool} (q : Ent L (Q (.bl (f x)))) : Ent L fun H => aB1 f [.int x] H Q E := fun H k => ⟨x, rfl, q H k⟩
theorem e_W1 {ok : Int → Prop} (h : ok x) (q : Ent L (Q .non)) : Ent L fun H => aW1 ok [.int x] H Q E := fun H k => ⟨x, rfl, h, q H k⟩
end
end Toy
namespace Toy
open PySem L2
/-! ### repr of plain values -/
def shV : V → Str
  | .non => "None"
  | .bl b => if b then "True" else "False"
  | .int i => toString i
  | .str x => reprText x
  | _ => ""
def okS : V → Prop
  | .non => True
  | .bl _ => True
  | .int i => i.natAbs.log2 < 1920
  | .str x => (reprText x).length ≤ sizeLine
  | _ => False
def rReprS : List V → Hp → VK → Prop := fun vs H Q => ∃ v, vs = [v] ∧ okS v ∧ Q (.str (shV v)) H
section
open PySem.Spec PyProof.Rows
theorem call_reprS {X : Cx} : CallR X (.builtin "repr") rReprS := by
  intro pins s σ H xs us Q I r h
  obtain ⟨v, rfl, ok, q⟩ := h
  obtain ⟨u, rfl, rx⟩ := vals1 r
  cases v with
  | non => cases rx; exact PySem.P.repr_of_none ⟨.str _, H, I.tok _, ⟨_, rfl⟩, q⟩
  | bl b => cases rx; exact PySem.P.repr_of_bool ⟨.str _, H, I.tok _, ⟨_, rfl⟩, q⟩
  | int i => obtain ⟨t, rfl⟩ := rx; exact PySem.P.repr_of_int ok ⟨.str _, H, I.tok _, ⟨_, rfl⟩, q⟩
  | str x => obtain ⟨t, rfl⟩ := rx; exact PySem.P.repr_of_str ⟨.str _, H, I.tok _, ⟨_, rfl⟩, q⟩ ok
  | byt _ => exact ok.elim
  | flt _ => exact ok.elim
  | ref _ => exact ok.elim
  | ty _ => exact ok.elim
end
theorem small_log {i : Int} (h : i.natAbs < 2 ^ 64) : i.natAbs.log2 < 1920 := by
  by_cases z : i.natAbs = 0
  · rw [z]; decide
  · have := (Nat.log2_lt z).mpr h
    omega
section
variable {K : PySem.W.Frag} {L M R : List HA} {Q : VK} {a b : Addr} {v : V}
theorem e_reprN (q : Ent L (Q (.str "None"))) : Ent L fun H => rReprS [.non] H Q := fun H k => ⟨_, rfl, trivial, q H k⟩
theorem e_reprB {b : Bool} (q : Ent L (Q (.str (if b then "True" else "False")))) : Ent L fun H => rReprS [.bl b] H Q := fun H k => ⟨_, rfl, trivial, q H k⟩
theorem e_reprI {i : Int} (h : -1000000000000 ≤ i ∧ i ≤ 1000000000000) (q : Ent L (Q (.str (toString i)))) : Ent L fun H => rReprS [.int i] H Q := fun H k => ⟨_, rfl, small_log (by omega), q H k⟩
theorem truth_ne : ¬ (("True" : Str) = "False") := by decide +kernel
theorem e_neB {b c : Bool} (q : Ent L (Q (.bl (b != c)))) : Ent L fun H => rNe (.str (if b then "True" else "False")) (.str (if c then "True" else "False")) H Q := fun H k => ⟨rfl, by
  have e : decide (V.str (if b then "True" else "False") = V.str (if c then "True" else "False")) = (b == c) := by
    cases b <;> cases c <;> simp [truth_ne, Ne.symm truth_ne]
  rw [e]
  exact q H k⟩
end
/-! ### walks that make pairs -/
section
variable {K : PySem.W.Frag} {L M R : List HA} {Q : VK} {l : Addr} {α β : Type} {E : El K α} {σ : St}
def kLcEn (K : PySem.W.Frag) (g : TG) (tt : TT) (te : TE) (vs : List Nat) (σ : St) (Q : VK) (us : List V) (H : Hp) : Prop := kEnum K (fun J H1 => ∀ D, H1 D = none → ∃ W : Nat → Nat → Hp → Prop, (∃ m, W 0 m (upd H1 D (.lst []))) ∧ ∀ i m H, W i m H →
      (J.stop i H ∧ Q (.ref D) H) ∨ (J.go i H ∧ ∃ Nx : Hp → Prop, (∀ H', Nx H' → ∃ m', m' < m ∧ W (i + 1) m' H') ∧ ∀ x H', J.yld i H x H' → g x (wipe σ vs) H' fun σ2 H2 => wipe σ2 vs = wipe σ vs ∧ tt σ2 H2 fun b H3 =>
        if b = true then te σ2 H3 fun y H4 => ∃ acc, H4 D = some (.lst acc) ∧ acc.length < sizeLine ∧ Nx (upd H4 D (.lst (acc ++ [y]))) else Nx H3)) us H
theorem e_lcE0 {g : TG} {tt : TT} {te : TE} {vs : List Nat} {tas : TA} (q : Ent L fun H => tas σ H (kLcEn K g tt te vs σ Q)) : Ent L fun H => tLc (iEnum K tas) g tt te vs σ H Q := q
/-- [.. for i, x in enumerate(l) if ..] -/
theorem e_lcEn {xs : List α} {g : TG} {tt : TT} {te : TE} {vs : List Nat} (E' : El K β) (kp : Nat → α → Option β) (t : Take (ls E l xs) L R) (hz : xs.length ≤ 100000)
    (step : ∀ i x, xs[i]? = some x → ∀ p v D ys (r : VK) (s : Hp → Prop), (∀ v' y, kp i x = some y → Ent (vl E' v' y :: ls E' D ys :: L) (r v')) → (kp i x = none → Ent (ls E' D ys :: L) s) → Ent (tu p [.int i, v] :: vl E v x :: ls E' D ys :: L) fun H => g (.ref p) (wipe σ vs) H fun σ2 H2 => wipe σ2 vs = wipe σ vs ∧ tt σ2 H2 fun b H3 => if b = true then te σ2 H3 r else s H3)
    (q : ∀ D, Ent (ls E' D ((List.range xs.length).filterMap fun i => xs[i]?.bind (kp i)) :: L) (Q (.ref D))) : Ent L fun H => kLcEn K g tt te vs σ Q [.ref l] H := fun H k => by
  obtain ⟨ws, h1, h2⟩ := t.ls k
  refine ⟨l, ws, rfl, SqL.of h1, fun D nD => ?_⟩
  have w : Walk (Ite K l) xs.length (fun H => ∃ vs, H l = some (.lst vs) ∧ All2 (E.P H) vs xs) (fun i H v H' => ∃ T x u, v = .ref T ∧ H T = none ∧ H' = upd H T (.tup [.int i, u]) ∧ xs[i]? = some x ∧ E.P H u x) :=
    ⟨fun i H hi ⟨vs, z1, z2⟩ => (walk_enum (K := K) (a := l) (xs := vs)).goes i H (by rw [z2.len]; exact hi) (SqL.of z1), fun H ⟨vs, z1, z2⟩ => by
      have := (walk_enum (K := K) (a := l) (xs := vs)).stops H (SqL.of z1)
      rw [z2.len] at this
      exact this, fun i H x H' hi ⟨vs, z1, z2⟩ y => by
      obtain ⟨T, a, b, e1, e2, e3, e4, e5⟩ := (walk_enum (K := K) (a := l) (xs := vs)).yields i H x H' (by rw [z2.len]; exact hi) (SqL.of z1) y
      obtain rfl : V.int (i : Nat) = a := Option.some.inj e4
      obtain ⟨x', hx, hp⟩ := z2.get e5
      exact ⟨T, x', b, e1, e2, e3, hx, hp⟩⟩
  refine lc_it w (fun i H' => i ≤ xs.length ∧ Holds (ls E' D ((List.range i).filterMap fun i => xs[i]?.bind (kp i)) :: L) H') ⟨Nat.zero_le _, k.ls_new nD .nil⟩ (fun i H' _ p => t.ls (Sub.to (Sub.drop Sub.refl) p.2)) (fun i v H' H'' hi p ⟨T, x, u, e, nT, eH, hx, hp⟩ => ?_) (fun H' p => q D H' p.2)
  subst e eH
  have et : (List.range (i + 1)).filterMap (fun i => xs[i]?.bind (kp i)) = (List.range i).filterMap (fun i => xs[i]?.bind (kp i)) ++ (kp i x).toList := by
    rw [List.range_succ, List.filterMap_append]
    cases z : kp i x <;> simp [hx, z]
  have z0 : Holds (tu T [.int i, u] :: vl E u x :: ls E' D ((List.range i).filterMap fun i => xs[i]?.bind (kp i)) :: L) (upd H' T (.tup [.int i, u])) := Sub.to Sub.swap (by
    have z := (p.2.newI (o := .tup [.int i, u]) nT rfl).vl (E := E) (x := x) (v := u) (E.st hp (keepI_new nT))
    exact z)
  refine step i x hx T u D _ _ _ (fun v' y hy H4 z => ?_) (fun hn H3 z => ?_) _ z0
  · obtain ⟨ac, z1, z2⟩ := Holds.ls_op (Sub.to (Sub.drop Sub.refl) z)
    have z3 : E'.P H4 v' y := Take.vl take_here z
    refine ⟨ac, z1.pt_get, ?_, hi, ?_⟩
    · rw [z2.len]
      refine Nat.lt_of_le_of_lt (List.length_filterMap_le _ _) (Nat.lt_of_le_of_lt ?_ (by decide : 100000 < sizeLine))
      rw [List.length_range]
      omega
    · rw [et, hy]
      exact Holds.ls_upd (Sub.to (Sub.drop Sub.refl) z) (z2.app (.one z3))
  · refine ⟨hi, ?_⟩
    rw [et, hn]
    simp only [Option.toList_none, List.append_nil]
    exact z
end
end Toy
namespace Toy
open PySem L2
section
variable {K : PySem.W.Frag} {L R : List HA} {l : Addr} {ns : List Int} {H : Hp} {Q : VK}
theorem all2_I {vs : List V} (h : All2 ((kI (K := K)).P H) vs ns) : vs = ns.map V.int := by
  induction h with
  | nil => rfl
  | cons h _ ih => rw [List.map_cons, ← ih]; exact congrArg (· :: _) h
theorem e_sortI (t : Take (ls (kI (K := K)) l ns) L R) (q : ∀ (ns' : List Int) p, ns'.Perm ns → ns'.Pairwise (· ≤ ·) → Ent (ls (kI (K := K)) p ns' :: L) (Q (.ref p))) : Ent L fun H => rSortedI K [.ref l] H Q := fun H k => by
  obtain ⟨vs, h1, h2⟩ := t.ls k
  have e := all2_I h2
  subst e
  exact ⟨l, ns, rfl, SqL.of h1, fun ns' p hp hs np => q ns' p hp hs _ (k.ls_new np (All2.map V.int fun _ _ => rfl))⟩
end
end Toy
namespace Toy
open PySem L2
/-! ## mirrors: what a def does, told over plain values, handing on to what follows -/
def obx {α : Type} (o : Option α) (k : α → Prop) : Prop := ∃ x, o = some x ∧ k x
def grd (c k : Prop) : Prop := c ∧ k
def jn {M : Type} (k : M → Prop) (f : (M → Prop) → Prop) : Prop := f k
def drw (n : Int) (k : Int → Prop) : Prop := 0 < n ∧ n < 1000000000 ∧ ∀ d, 0 ≤ d → d < n → k d
def pck {α : Type} (xs : List α) (k : α → Prop) : Prop := (0 < xs.length ∧ xs.length < 1000000000) ∧ ∀ x ∈ xs, k x
def forL {α M : Type} : List α → M → (α → M → (M → Prop) → (M → Prop) → Prop) → (M → Prop) → Prop
  | [], m, _, k => k m
  | x :: xs, m, b, k => b x m (fun m' => forL xs m' b k) k
def lcL {α β : Type} : List α → List β → (α → (Option β → Prop) → Prop) → (List β → Prop) → Prop
  | [], acc, _, k => k acc
  | x :: xs, acc, b, k => b x fun o => lcL xs (acc ++ o.toList) b k
def whL {M : Type} (b : M → (M → Prop) → (M → Prop) → Prop) (k : M → Prop) : Nat → M → Prop
  | 0, _ => False
  | n + 1, m => b m (fun m' => whL b k n m') k
section
variable {α β M : Type} {k k' : M → Prop}
theorem obx_some {x : α} {k : α → Prop} : obx (some x) k = k x := by simp [obx]
theorem obx_none {k : α → Prop} : obx none k = False := by simp [obx]
theorem grd_true {c k : Prop} (h : c) : grd c k = k := by simp [grd, h]
theorem drw_ok {n : Int} {k : Int → Prop} (h0 : 0 < n ∧ n < 1000000000) (h : ∀ d, 0 ≤ d → d < n → k d) : drw n k := ⟨h0.1, h0.2, h⟩
theorem pck_ok {xs : List α} {k : α → Prop} (h0 : 0 < xs.length ∧ xs.length < 1000000000) (h : ∀ x ∈ xs, k x) : pck xs k := ⟨h0, h⟩
theorem jn_eq {f : (M → Prop) → Prop} : jn k f = f k := rfl
theorem forL_nil {m : M} {b : α → M → (M → Prop) → (M → Prop) → Prop} : forL [] m b k = k m := rfl
theorem forL_cons {m : M} {x : α} {xs : List α} {b : α → M → (M → Prop) → (M → Prop) → Prop} : forL (x :: xs) m b k = b x m (fun m' => forL xs m' b k) k := rfl
/-- by an invariant -/
theorem forL_inv {xs : List α} {b : α → M → (M → Prop) → (M → Prop) → Prop} (I : Nat → M → Prop) {m : M} (h0 : I 0 m) (step : ∀ i x m nx, xs[i]? = some x → I i m → (∀ m', I (i + 1) m' → nx m') → b x m nx k) (hd : ∀ m, I xs.length m → k m) : forL xs m b k := by
  have key : ∀ (ys : List α) (i : Nat) (m : M), xs.drop i = ys → i ≤ xs.length → I i m → forL ys m b k := by
    intro ys
    induction ys with
    | nil =>
      intro i m e hi h
      have : i = xs.length := by
        have := List.drop_eq_nil_iff.mp e
        omega
      subst this
      exact hd m h
    | cons y ys ih =>
      intro i m e hi h
      have hx : xs[i]? = some y := by
        have := congrArg (fun l => l[0]?) e
        simpa using this
      have hlt : i < xs.length := (List.getElem?_eq_some_iff.mp hx).1
      refine step i y m _ hx h fun m' h' => ih (i + 1) m' ?_ (by omega) h'
      have := congrArg List.tail e
      simpa using this
  exact key xs 0 m rfl (Nat.zero_le _) h0
/-- a loop whose turns hand on a value: a fold -/
theorem forL_fold {xs : List α} {b : α → M → (M → Prop) → (M → Prop) → Prop} (f : M → α → M) {m : M} (step : ∀ x ∈ xs, ∀ m nx, b x m nx k = nx (f m x)) : forL xs m b k = k (xs.foldl f m) := by
  induction xs generalizing m with
  | nil => rfl
  | cons x xs ih =>
    rw [forL_cons, step x (List.mem_cons_self ..), ih fun y hy => step y (List.mem_cons_of_mem _ hy)]
    rfl
theorem lcL_map {xs : List α} {acc : List β} {b : α → (Option β → Prop) → Prop} {k : List β → Prop} (f : α → Option β) (step : ∀ x ∈ xs, ∀ nx, b x nx = nx (f x)) : lcL xs acc b k = k (acc ++ xs.filterMap f) := by
  induction xs generalizing acc with
  | nil => simp [lcL]
  | cons x xs ih =>
    rw [lcL, step x (List.mem_cons_self ..), ih fun y hy => step y (List.mem_cons_of_mem _ hy)]
    congr 1
    cases h : f x <;> simp [List.filterMap_cons, h]
theorem lcL_some {xs : List α} {acc : List β} {k : List β → Prop} (f : α → β) : lcL xs acc (fun x nx => nx (some (f x))) k = k (acc ++ xs.map f) := by
  rw [lcL_map (fun x => some (f x)) fun x _ nx => rfl]
  simp
theorem lcL_if {xs : List α} {acc : List β} {k : List β → Prop} (p : α → Prop) [DecidablePred p] (f : α → β) : lcL xs acc (fun x nx => if p x then nx (some (f x)) else nx none) k = k (acc ++ (xs.filter p).map f) := by
  rw [lcL_map (fun x => if p x then some (f x) else none) fun x _ nx => by by_cases h : p x <;> simp [h]]
  congr 2
  induction xs with
  | nil => rfl
  | cons x xs ih => by_cases h : p x <;> simp [h, ih]
theorem lcL_filter {xs : List α} {acc : List α} {k : List α → Prop} (p : α → Prop) [DecidablePred p] : lcL xs acc (fun x nx => if p x then nx (some x) else nx none) k = k (acc ++ xs.filter p) := by
  have := lcL_if (xs := xs) (acc := acc) (k := k) p (fun x => x)
  simpa using this
theorem lcL_filterN {xs : List α} {acc : List α} {k : List α → Prop} (p : α → Prop) [DecidablePred p] : lcL xs acc (fun x nx => if p x then nx none else nx (some x)) k = k (acc ++ xs.filter fun x => ¬ p x) := by
  rw [lcL_map (fun x => if p x then none else some x) fun x _ nx => by by_cases h : p x <;> simp [h]]
  congr 2
  induction xs with
  | nil => rfl
  | cons x xs ih => by_cases h : p x <;> simp [h, ih]
/-- by an invariant over what is made -/
theorem lcL_inv {xs : List α} {b : α → (Option β → Prop) → Prop} {k : List β → Prop} (I : Nat → List β → Prop) {acc : List β} (h0 : I 0 acc) (step : ∀ i x acc nx, xs[i]? = some x → I i acc → (∀ o, I (i + 1) (acc ++ Option.toList o) → nx o) → b x nx) (hd : ∀ acc, I xs.length acc → k acc) : lcL xs acc b k := by
  have key : ∀ (ys : List α) (i : Nat) (acc : List β), xs.drop i = ys → i ≤ xs.length → I i acc → lcL ys acc b k := by
    intro ys
    induction ys with
    | nil =>
      intro i m e hi h
      have : i = xs.length := by
        have := List.drop_eq_nil_iff.mp e
        omega
      subst this
      exact hd m h
    | cons y ys ih =>
      intro i m e hi h
      have hx : xs[i]? = some y := by
        have := congrArg (fun l => l[0]?) e
        simpa using this
      refine step i y m _ hx h fun o h' => ih (i + 1) _ ?_ (by have := (List.getElem?_eq_some_iff.mp hx).1; omega) h'
      have := congrArg List.tail e
      simpa using this
  exact key xs 0 acc rfl (Nat.zero_le _) h0
end
/-! ### kinds: tuples of kinds -/
structure Els (K : PySem.W.Frag) (α : Type) where
  P : Hp → List V → α → Prop
  st : ∀ {H H' : Hp} {vs : List V} {x : α}, P H vs x → KeepI H H' → P H' vs x
  d : α → List PyData
  dp : ∀ {H : Hp} {vs : List V} {x : α}, P H vs x → DpAll K H vs (d x)
section
variable {K : PySem.W.Frag} {α β γ : Type}
def kNil : Els K Unit := ⟨fun _ vs _ => vs = [], fun h _ => h, fun _ => [], fun h => by subst h; exact .nil⟩
def kC1 (A : El K α) : Els K α := ⟨fun H vs x => ∃ v, vs = [v] ∧ A.P H v x, fun ⟨v, e, h⟩ k => ⟨v, e, A.st h k⟩, fun x => [A.d x], fun ⟨v, e, h⟩ => by subst e; exact .cons (A.dp h) .nil⟩
def kC (A : El K α) (B : Els K β) : Els K (α × β) := ⟨fun H vs x => ∃ v us, vs = v :: us ∧ A.P H v x.1 ∧ B.P H us x.2, fun ⟨v, us, e, h, h2⟩ k => ⟨v, us, e, A.st h k, B.st h2 k⟩, fun x => A.d x.1 :: B.d x.2, fun ⟨v, us, e, h, h2⟩ => by subst e; exact .cons (A.dp h) (B.dp h2)⟩
def kTup (B : Els K α) : El K α := ⟨fun H v x => ∃ t us, v = .ref t ∧ H t = some (.tup us) ∧ B.P H us x, fun ⟨t, us, e, h, h2⟩ k => ⟨t, us, e, k t _ h (.inr rfl), B.st h2 k⟩, fun x => .tuple (B.d x), fun ⟨t, us, e, h, h2⟩ => by subst e; exact .tup (SqT.of h) (B.dp h2)⟩
def kN : El K Unit := ⟨fun _ v _ => v = .non, fun h _ => h, fun _ => .none, fun h => by subst h; exact .non⟩
/-- a text that == looks at -/
def kSt : El K Str := ⟨fun _ v x => v = .str x ∧ PyData.strOk x = true, fun h _ => h, .str, fun h => by obtain ⟨h, _⟩ := h; subst h; exact .str _⟩
/-- one of two kinds -/
def kU (A : El K α) (B : El K β) : El K (α ⊕ β) := ⟨fun H v x => match x with | .inl a => A.P H v a | .inr b => B.P H v b, fun {H H' v x} h k => by
  cases x with
  | inl a => exact A.st h k
  | inr b => exact B.st h k, fun x => match x with | .inl a => A.d a | .inr b => B.d b, fun {H v x} h => by
  cases x with
  | inl a => exact A.dp h
  | inr b => exact B.dp h⟩
/-! told apart by == -/
class ElD [DecidableEq α] (E : El K α) where
  n : Nat
  lay : ∀ {H v x}, E.P H v x → (E.d x).canLay0 = true
  dep : ∀ x, (E.d x).depth ≤ n
  eqv : ∀ x y, PyData.eqv (E.d x) (E.d y) = decide (x = y)
class ElN (E : El K α) : Prop where
  non : ∀ x, PyData.eqv .none (E.d x) = false ∧ PyData.eqv (E.d x) .none = false
  nv : ∀ H v x, E.P H v x → v ≠ .non
class ElsD [DecidableEq α] (E : Els K α) where
  n : Nat
  lay : ∀ {H v x}, E.P H v x → PyData.canLayAll0 (E.d x) = true
  dep : ∀ x, PyData.depthAll (E.d x) ≤ n
  eqv : ∀ x y, PyData.eqvAll (E.d x) (E.d y) = decide (x = y)
@[reducible] def elD_of [DecidableEq α] {E : El K α} {n : Nat} (h : DtOk E.d n) : ElD E := ⟨n, fun _ => h.lay _, h.dep, h.eqv⟩
instance : ElD (kI (K := K)) := elD_of DtOk.int
instance : ElN (kI (K := K)) := ⟨DtOk.int.non, fun H v x h z => by have h : v = .int x := h; rw [h] at z; cases z⟩
instance : ElD (kB (K := K)) := ⟨0, fun {_ _ x} _ => by show (PyData.bool x).canLay0 = true; rw [PyData.canLay0], fun x => by show (PyData.bool x).depth ≤ 0; simp [PyData.depth], fun x y => by
  show PyData.eqv (.bool x) (.bool y) = _
  cases x <;> cases y <;> simp [PyData.eqv]⟩
instance : ElN (kB (K := K)) := ⟨fun x => by show PyData.eqv .none (.bool x) = false ∧ _; constructor <;> simp [PyData.eqv, kB], fun H v x h z => by have h : v = .bl x := h; rw [h] at z; cases z⟩
instance : ElD (kSt (K := K)) := ⟨0, fun {_ _ x} h => by show (PyData.str x).canLay0 = true; rw [PyData.canLay0]; exact h.2, fun x => by show (PyData.str x).depth ≤ 0; simp [PyData.depth], fun x y => by
  show PyData.eqv (.str x) (.str y) = _
  simp only [PyData.eqv]
  by_cases h : x = y
  · subst h; simp
  · rw [decide_eq_false h]; simpa using h⟩
instance : ElN (kSt (K := K)) := ⟨fun x => by show PyData.eqv .none (.str x) = false ∧ _; constructor <;> simp [PyData.eqv, kSt], fun H v x h z => by have h : v = .str x := h.1; rw [h] at z; cases z⟩
instance : ElD (kN (K := K)) := ⟨0, fun _ => by show PyData.none.canLay0 = true; rw [PyData.canLay0], fun x => by show PyData.none.depth ≤ 0; simp [PyData.depth], fun x y => by
  show PyData.eqv .none .none = _
  simp [PyData.eqv]⟩
instance [DecidableEq α] {E : El K α} [D : ElD E] [N : ElN E] : ElD (kO E) := ⟨D.n, fun {H v x} h => by
  cases x with
  | none => show PyData.none.canLay0 = true; rw [PyData.canLay0]
  | some y => exact D.lay (show E.P H v y from h), fun x => by
  cases x with
  | none => show PyData.none.depth ≤ _; simp [PyData.depth]
  | some y => exact D.dep y, fun x y => by
  cases x with
  | none => cases y with
    | none => show PyData.eqv .none .none = _; simp [PyData.eqv]
    | some y => show PyData.eqv .none (E.d y) = _; rw [(N.non y).1]; simp
  | some x => cases y with
    | none => show PyData.eqv (E.d x) .none = _; rw [(N.non x).2]; simp
    | some y => show PyData.eqv (E.d x) (E.d y) = _; rw [D.eqv]; simp⟩
instance : ElsD (kNil (K := K)) := ⟨0, fun _ => rfl, fun _ => by show PyData.depthAll [] ≤ 0; simp [PyData.depthAll], fun x y => by show PyData.eqvAll [] [] = _; simp [PyData.eqvAll]⟩
instance [DecidableEq α] {A : El K α} [D : ElD A] : ElsD (kC1 A) := ⟨D.n, fun {H vs x} h => by show PyData.canLayAll0 [A.d x] = true; obtain ⟨v, _, h⟩ := h; simp [PyData.canLayAll0, D.lay h], fun x => by
  have := D.dep x
  show PyData.depthAll [A.d x] ≤ _
  simp [PyData.depthAll]; omega, fun x y => by show PyData.eqvAll [A.d x] [A.d y] = _; simp [PyData.eqvAll, D.eqv]⟩
instance [DecidableEq α] [DecidableEq β] {A : El K α} {B : Els K β} [D : ElD A] [F : ElsD B] : ElsD (kC A B) := ⟨max D.n F.n, fun {H vs x} h => by show PyData.canLayAll0 (A.d x.1 :: B.d x.2) = true; obtain ⟨v, us, _, h, h2⟩ := h; simp [PyData.canLayAll0, D.lay h, F.lay h2], fun x => by
  have h1 := D.dep x.1
  have h2 := F.dep x.2
  show PyData.depthAll (A.d x.1 :: B.d x.2) ≤ _
  simp only [PyData.depthAll] at h2 ⊢; omega, fun x y => by
  show PyData.eqvAll (A.d x.1 :: B.d x.2) (A.d y.1 :: B.d y.2) = _
  obtain ⟨a, b⟩ := x
  obtain ⟨a', b'⟩ := y
  simp only [PyData.eqvAll, D.eqv, F.eqv, Prod.mk.injEq]
  by_cases h : a = a' <;> by_cases h2 : b = b' <;> simp [h, h2]⟩
instance [DecidableEq α] {B : Els K α} [F : ElsD B] : ElD (kTup B) := ⟨F.n + 1, fun {H v x} h => by show (PyData.tuple (B.d x)).canLay0 = true; rw [PyData.canLay0]; obtain ⟨t, us, _, _, h⟩ := h; exact F.lay h, fun x => by
  have := F.dep x
  show (PyData.tuple (B.d x)).depth ≤ _
  simp only [PyData.depth]; omega, fun x y => by
  show PyData.eqv (.tuple (B.d x)) (.tuple (B.d y)) = _
  rw [PyData.eqv]; exact F.eqv x y⟩
instance {B : Els K α} : ElN (kTup B) := ⟨fun x => by show PyData.eqv .none (.tuple (B.d x)) = false ∧ PyData.eqv (.tuple (B.d x)) .none = false; constructor <;> simp [PyData.eqv], fun H v x h z => by obtain ⟨t, us, e, _⟩ := h; rw [e] at z; cases z⟩
section
variable [DecidableEq α] {A : El K α} [D : ElD A]
theorem ElD.layAll {H : Hp} {vs : List V} {xs : List α} (h : All2 (A.P H) vs xs) : PyData.canLayAll0 (xs.map A.d) = true := by
  induction h with
  | nil => rfl
  | cons h _ ih =>
    rw [List.map_cons]
    simp only [PyData.canLayAll0, D.lay h, ih, Bool.and_self]
theorem ElD.depAll (xs : List α) : PyData.depthAll (xs.map A.d) ≤ D.n := by
  induction xs with
  | nil => simp [PyData.depthAll]
  | cons x xs h1 =>
    have h2 := D.dep x
    rw [List.map_cons]
    simp only [PyData.depthAll] at h1 ⊢
    omega
theorem ElD.eqvAll : ∀ xs ys : List α, PyData.eqvAll (xs.map A.d) (ys.map A.d) = decide (xs = ys)
  | [], [] => by simp [PyData.eqvAll]
  | [], y :: ys => by simp [PyData.eqvAll]
  | x :: xs, [] => by simp [PyData.eqvAll]
  | x :: xs, y :: ys => by
    rw [List.map_cons, List.map_cons]
    simp only [PyData.eqvAll, D.eqv x y, ElD.eqvAll xs ys]
    by_cases e : x = y <;> by_cases e2 : xs = ys <;> simp [e, e2]
end
instance [DecidableEq α] {A : El K α} [D : ElD A] : ElD (kT A) := ⟨D.n + 1, fun {H v x} h => by show (PyData.tuple (x.map A.d)).canLay0 = true; rw [PyData.canLay0]; obtain ⟨t, us, _, _, h⟩ := h; exact D.layAll h, fun x => by
  have := D.depAll x
  show (PyData.tuple (x.map A.d)).depth ≤ _
  simp only [PyData.depth]; omega, fun x y => by
  show PyData.eqv (.tuple (x.map A.d)) (.tuple (y.map A.d)) = _
  rw [PyData.eqv]; exact D.eqvAll x y⟩
instance {A : El K α} : ElN (kT A) := ⟨fun x => by show PyData.eqv .none (.tuple (x.map A.d)) = false ∧ PyData.eqv (.tuple (x.map A.d)) .none = false; constructor <;> simp [PyData.eqv], fun H v x h z => by obtain ⟨t, us, e, _⟩ := h; rw [e] at z; cases z⟩
/-! ### what is compared: by content as it stands -/
structure Ct (K : PySem.W.Frag) (α : Type) where
  P : Hp → V → α → Prop
  d : α → PyData
  dp : ∀ {H : Hp} {v : V} {x : α}, P H v x → Dp K H v (d x)
structure Cts (K : PySem.W.Frag) (α : Type) where
  P : Hp → List V → α → Prop
  d : α → List PyData
  dp : ∀ {H : Hp} {vs : List V} {x : α}, P H vs x → DpAll K H vs (d x)
def ctE (E : El K α) : Ct K α := ⟨E.P, E.d, E.dp⟩
def ctL (C : Ct K α) : Ct K (List α) := ⟨fun H v xs => ∃ l vs, v = .ref l ∧ SqL K H l vs ∧ All2 (C.P H) vs xs, fun xs => .list (xs.map C.d), fun ⟨l, vs, e, h, a⟩ => by subst e; exact .lst h (dpAll_of (a.imp fun _ _ z => C.dp z))⟩
def ctN : Cts K Unit := ⟨fun _ vs _ => vs = [], fun _ => [], fun h => by subst h; exact .nil⟩
def ctC1 (A : Ct K α) : Cts K α := ⟨fun H vs x => ∃ v, vs = [v] ∧ A.P H v x, fun x => [A.d x], fun ⟨v, e, h⟩ => by subst e; exact .cons (A.dp h) .nil⟩
def ctC (A : Ct K α) (B : Cts K β) : Cts K (α × β) := ⟨fun H vs x => ∃ v us, vs = v :: us ∧ A.P H v x.1 ∧ B.P H us x.2, fun x => A.d x.1 :: B.d x.2, fun ⟨v, us, e, h, h2⟩ => by subst e; exact .cons (A.dp h) (B.dp h2)⟩
def ctT (B : Cts K α) : Ct K α := ⟨fun H v x => ∃ t us, v = .ref t ∧ SqT K H t us ∧ B.P H us x, fun x => .tuple (B.d x), fun ⟨t, us, e, h, h2⟩ => by subst e; exact .tup h (B.dp h2)⟩
class CtD [DecidableEq α] (E : Ct K α) where
  n : Nat
  lay : ∀ {H v x}, E.P H v x → (E.d x).canLay0 = true
  dep : ∀ x, (E.d x).depth ≤ n
  eqv : ∀ x y, PyData.eqv (E.d x) (E.d y) = decide (x = y)
class CtsD [DecidableEq α] (E : Cts K α) where
  n : Nat
  lay : ∀ {H v x}, E.P H v x → PyData.canLayAll0 (E.d x) = true
  dep : ∀ x, PyData.depthAll (E.d x) ≤ n
  eqv : ∀ x y, PyData.eqvAll (E.d x) (E.d y) = decide (x = y)
instance [DecidableEq α] {E : El K α} [D : ElD E] : CtD (ctE E) := ⟨D.n, D.lay, D.dep, D.eqv⟩
section
variable [DecidableEq α] {A : Ct K α} [D : CtD A]
theorem CtD.layAll {H : Hp} {vs : List V} {xs : List α} (h : All2 (A.P H) vs xs) : PyData.canLayAll0 (xs.map A.d) = true := by
  induction h with
  | nil => rfl
  | cons h _ ih =>
    rw [List.map_cons]
    simp only [PyData.canLayAll0, D.lay h, ih, Bool.and_self]
theorem CtD.depAll (xs : List α) : PyData.depthAll (xs.map A.d) ≤ D.n := by
  induction xs with
  | nil => simp [PyData.depthAll]
  | cons x xs h1 =>
    have h2 := D.dep x
    rw [List.map_cons]
    simp only [PyData.depthAll] at h1 ⊢
    omega
theorem CtD.eqvAll : ∀ xs ys : List α, PyData.eqvAll (xs.map A.d) (ys.map A.d) = decide (xs = ys)
  | [], [] => by simp [PyData.eqvAll]
  | [], y :: ys => by simp [PyData.eqvAll]
  | x :: xs, [] => by simp [PyData.eqvAll]
  | x :: xs, y :: ys => by
    rw [List.map_cons, List.map_cons]
    simp only [PyData.eqvAll, D.eqv x y, CtD.eqvAll xs ys]
    by_cases e : x = y <;> by_cases e2 : xs = ys <;> simp [e, e2]
end
instance [DecidableEq α] {A : Ct K α} [D : CtD A] : CtD (ctL A) := ⟨D.n + 1, fun {H v x} h => by show (PyData.list (x.map A.d)).canLay0 = true; rw [PyData.canLay0]; obtain ⟨t, us, _, _, h⟩ := h; exact D.layAll h, fun x => by
  have := D.depAll x
  show (PyData.list (x.map A.d)).depth ≤ _
  simp only [PyData.depth]; omega, fun x y => by
  show PyData.eqv (.list (x.map A.d)) (.list (y.map A.d)) = _
  rw [PyData.eqv]; exact D.eqvAll x y⟩
instance : CtsD (ctN (K := K)) := ⟨0, fun _ => rfl, fun _ => by show PyData.depthAll [] ≤ 0; simp [PyData.depthAll], fun x y => by show PyData.eqvAll [] [] = _; simp [PyData.eqvAll]⟩
instance [DecidableEq α] {A : Ct K α} [D : CtD A] : CtsD (ctC1 A) := ⟨D.n, fun {H vs x} h => by show PyData.canLayAll0 [A.d x] = true; obtain ⟨v, _, h⟩ := h; simp [PyData.canLayAll0, D.lay h], fun x => by
  have := D.dep x
  show PyData.depthAll [A.d x] ≤ _
  simp [PyData.depthAll]; omega, fun x y => by show PyData.eqvAll [A.d x] [A.d y] = _; simp [PyData.eqvAll, D.eqv]⟩
instance [DecidableEq α] [DecidableEq β] {A : Ct K α} {B : Cts K β} [D : CtD A] [F : CtsD B] : CtsD (ctC A B) := ⟨max D.n F.n, fun {H vs x} h => by show PyData.canLayAll0 (A.d x.1 :: B.d x.2) = true; obtain ⟨v, us, _, h, h2⟩ := h; simp [PyData.canLayAll0, D.lay h, F.lay h2], fun x => by
  have h1 := D.dep x.1
  have h2 := F.dep x.2
  show PyData.depthAll (A.d x.1 :: B.d x.2) ≤ _
  simp only [PyData.depthAll] at h2 ⊢; omega, fun x y => by
  show PyData.eqvAll (A.d x.1 :: B.d x.2) (A.d y.1 :: B.d y.2) = _
  obtain ⟨a, b⟩ := x
  obtain ⟨a', b'⟩ := y
  simp only [PyData.eqvAll, D.eqv, F.eqv, Prod.mk.injEq]
  by_cases h : a = a' <;> by_cases h2 : b = b' <;> simp [h, h2]⟩
instance [DecidableEq α] {B : Cts K α} [F : CtsD B] : CtD (ctT B) := ⟨F.n + 1, fun {H v x} h => by show (PyData.tuple (B.d x)).canLay0 = true; rw [PyData.canLay0]; obtain ⟨t, us, _, _, h⟩ := h; exact F.lay h, fun x => by
  have := F.dep x
  show (PyData.tuple (B.d x)).depth ≤ _
  simp only [PyData.depth]; omega, fun x y => by
  show PyData.eqv (.tuple (B.d x)) (.tuple (B.d y)) = _
  rw [PyData.eqv]; exact F.eqv x y⟩
def rEqC [DecidableEq α] (C : Ct K α) : R2 := fun x y H Q => ∃ a b, C.P H x a ∧ C.P H y b ∧ Q (.bl (decide (a = b))) H
def rNeC [DecidableEq α] (C : Ct K α) : R2 := fun x y H Q => ∃ a b, C.P H x a ∧ C.P H y b ∧ Q (.bl (!decide (a = b))) H
theorem op_eqC {X : Cx} [DecidableEq α] (C : Ct K α) [D : CtD C] (hu : X.A.units + 64 < cLine) (hn : D.n ≤ 64 := by exact Nat.le_of_ble_eq_true rfl) (hK : X.K = K := by rfl) : OpR X (compareOp .Eq) (rEqC C) := fun pins s σ H x y v u Q I rx ry h => by
  subst hK
  obtain ⟨a, b, h1, h2, q⟩ := h
  exact op_eqD hu pins s σ H x y v u Q I rx ry ⟨C.d a, C.d b, C.dp h1, C.dp h2, shaped_of (D.lay h1) (D.dep a) hn, shaped_of (D.lay h2) (D.dep b) hn, by rw [D.eqv]; exact q⟩
theorem op_neC {X : Cx} [DecidableEq α] (C : Ct K α) [D : CtD C] (hu : X.A.units + 64 < cLine) (hn : D.n ≤ 64 := by exact Nat.le_of_ble_eq_true rfl) (hK : X.K = K := by rfl) : OpR X (compareOp .NotEq) (rNeC C) := fun pins s σ H x y v u Q I rx ry h => by
  subst hK
  obtain ⟨a, b, h1, h2, q⟩ := h
  exact op_neD hu pins s σ H x y v u Q I rx ry ⟨C.d a, C.d b, C.dp h1, C.dp h2, shaped_of (D.lay h1) (D.dep a) hn, shaped_of (D.lay h2) (D.dep b) hn, by rw [D.eqv]; exact q⟩
end
/-! ### cuts within a statement -/
def tCutT (c : TT) : TT := fun σ H Q => ∃ M : Bool → Hp → Prop, c σ H M ∧ ∀ b H', M b H' → Q b H'
theorem pt_cut {X : Cx} {e : Expr} {c : TT} (h : PT X e c) : PT X e (tCutT c) := ⟨fun pins s σ H Q I ⟨M, hm, hq⟩ => thn (h.run pins s σ H M I hm) fun b s' ⟨H', I', q⟩ => ⟨H', I', hq b H' q⟩⟩
def tCutE (t : TE) : TE := fun σ H Q => ∃ M : VK, t σ H M ∧ ∀ v H', M v H' → Q v H'
theorem pe_cut {X : Cx} {e : Expr} {t : TE} (h : PE X e t) : PE X e (tCutE t) := ⟨fun pins s σ H Q I ⟨M, hm, hq⟩ => thn (h.run pins s σ H M I hm) fun b s' ⟨v, H', I', r, q⟩ => ⟨v, H', I', r, hq v H' q⟩⟩
end Toy
namespace Toy
open PySem L2
def obg {α : Type} (o : Option α) (k : α → Prop) : Prop := ∃ x, o = some x ∧ k x
theorem obg_some {α : Type} {x : α} {k : α → Prop} : obg (some x) k = k x := by simp [obg]
theorem obg_none {α : Type} {k : α → Prop} : obg none k = False := by simp [obg]
def upds : St → List (Option (Option V)) → St
  | s :: σ, none :: r => s :: upds σ r
  | _ :: σ, some v :: r => v :: upds σ r
  | σ, [] => σ
  | [], _ => []
abbrev eqb {α : Type} [DecidableEq α] (x y : α) : Bool := decide (x = y)
section
variable {K : PySem.W.Frag} {α β γ M B : Type} {L R R' R3 : List HA} {σ τ : St} {Q : VK} {D : Ends} {nx bk ct : St → Hp → Prop} {rt : VK} {v x y : V} {a b p l : Addr} {vs us : List V} {φ ψ : Hp → Prop} {H : Hp} {E : El K α} {F : El K β} {X Y : Prop}
/-! ### values made plain -/
def vEls (Es : Els K α) (us : List V) (x : α) : HA := ⟨fun H S => Es.P H us x ∧ ∀ b, ¬ S b, fun ⟨h, s⟩ k => ⟨Es.st h k.i, s⟩, fun ⟨_, s⟩ q => (s _ q).elim⟩
theorem Holds.els {Es : Els K α} {x : α} (h : Holds L H) (e : Es.P H us x) : Holds (vEls Es us x :: L) H := by
  obtain ⟨S, h⟩ := h
  exact ⟨S, fun _ => False, S, ⟨e, fun b q => q⟩, h, fun b e q => e, fun b => ⟨.inr, fun z => z.elim (fun z => z.elim) id⟩⟩
theorem Holds.hd_els {Es : Els K α} {x : α} (h : Holds (vEls Es us x :: L) H) : Es.P H us x ∧ Holds L H := by
  obtain ⟨S, S1, S2, h1, h2, _⟩ := h
  exact ⟨h1.1, S2, h2⟩
theorem Holds.hd_vl {x : α} (h : Holds (Toy.vl E v x :: L) H) : E.P H v x ∧ Holds L H := by
  obtain ⟨S, S1, S2, h1, h2, _⟩ := h
  exact ⟨h1.1, S2, h2⟩
theorem Ent.vB {n : Bool} {φ : V → Hp → Prop} (q : Ent L (φ (.bl n))) (v : V) : Ent (vl (K := K) kB v n :: L) (φ v) := fun H h => by
  obtain ⟨e, h'⟩ := h.hd_vl
  obtain rfl : v = .bl n := e
  exact q H h'
theorem Ent.vN {n : Unit} {φ : V → Hp → Prop} (q : Ent L (φ .non)) (v : V) : Ent (vl (K := K) kN v n :: L) (φ v) := fun H h => by
  obtain ⟨e, h'⟩ := h.hd_vl
  obtain rfl : v = .non := e
  exact q H h'
theorem Ent.vS {n : Str} {φ : V → Hp → Prop} (q : Ent L (φ (.str n))) (v : V) : Ent (vl (K := K) kS v n :: L) (φ v) := fun H h => by
  obtain ⟨e, h'⟩ := h.hd_vl
  obtain rfl : v = .str n := e
  exact q H h'
theorem Ent.vSt {n : Str} {φ : V → Hp → Prop} (q : Ent (vl (K := K) kSt (.str n) n :: L) (φ (.str n))) (v : V) : Ent (vl (K := K) kSt v n :: L) (φ v) := fun H h => by
  obtain ⟨e, _⟩ := h.hd_vl
  obtain rfl : v = .str n := e.1
  exact q H h
theorem Ent.tupO {Es : Els K α} {x : α} (t : Take (vl (kTup Es) v x) L R) (q : ∀ a us, v = .ref a → Ent (vEls Es us x :: tu a us :: L) φ) : Ent L φ := fun H h => by
  obtain ⟨a, us, e, h1, h2⟩ := t.vl h
  exact q a us e H ((h.addI h1 rfl).els h2)
theorem Ent.elsN {x : Unit} (q : us = [] → Ent L φ) : Ent (vEls (K := K) kNil us x :: L) φ := fun H h => by
  obtain ⟨e, h⟩ := h.hd_els
  exact q e H h
theorem Ent.elsC {A : El K α} {B : Els K β} {x : α × β} (q : ∀ u us', us = u :: us' → Ent (vEls B us' x.2 :: vl A u x.1 :: L) φ) : Ent (vEls (kC A B) us x :: L) φ := fun H h => by
  obtain ⟨⟨u, us', e, h1, h2⟩, h⟩ := h.hd_els
  exact q u us' e H ((h.vl h1).els h2)
theorem Ent.elsCI {B : Els K β} {x : Int × β} (q : ∀ us', us = .int x.1 :: us' → Ent (vEls B us' x.2 :: L) φ) : Ent (vEls (kC kI B) us x :: L) φ := fun H h => by
  obtain ⟨⟨u, us', e, h1, h2⟩, h⟩ := h.hd_els
  obtain rfl : u = .int x.1 := h1
  exact q us' e H (h.els h2)
theorem Ent.elsCB {B : Els K β} {x : Bool × β} (q : ∀ us', us = .bl x.1 :: us' → Ent (vEls B us' x.2 :: L) φ) : Ent (vEls (kC kB B) us x :: L) φ := fun H h => by
  obtain ⟨⟨u, us', e, h1, h2⟩, h⟩ := h.hd_els
  obtain rfl : u = .bl x.1 := h1
  exact q us' e H (h.els h2)
theorem Ent.elsCS {B : Els K β} {x : Str × β} (q : ∀ us', us = .str x.1 :: us' → Ent (vEls B us' x.2 :: vl (K := K) kSt (.str x.1) x.1 :: L) φ) : Ent (vEls (kC kSt B) us x :: L) φ := fun H h => by
  obtain ⟨⟨u, us', e, h1, h2⟩, h⟩ := h.hd_els
  obtain rfl : u = .str x.1 := h1.1
  exact q us' e H ((h.vl h1).els h2)
theorem Ent.els1 {A : El K α} {x : α} (q : ∀ u, us = [u] → Ent (vl A u x :: L) φ) : Ent (vEls (kC1 A) us x :: L) φ := fun H h => by
  obtain ⟨⟨u, e, h1⟩, h⟩ := h.hd_els
  exact q u e H (h.vl h1)
theorem Ent.els1I {x : Int} (q : us = [.int x] → Ent L φ) : Ent (vEls (K := K) (kC1 kI) us x :: L) φ := fun H h => by
  obtain ⟨⟨u, e, h1⟩, h⟩ := h.hd_els
  obtain rfl : u = .int x := h1
  exact q e H h
theorem Ent.els1B {x : Bool} (q : us = [.bl x] → Ent L φ) : Ent (vEls (K := K) (kC1 kB) us x :: L) φ := fun H h => by
  obtain ⟨⟨u, e, h1⟩, h⟩ := h.hd_els
  obtain rfl : u = .bl x := h1
  exact q e H h
theorem Ent.els1S {x : Str} (q : us = [.str x] → Ent (vl (K := K) kSt (.str x) x :: L) φ) : Ent (vEls (K := K) (kC1 kSt) us x :: L) φ := fun H h => by
  obtain ⟨⟨u, e, h1⟩, h⟩ := h.hd_els
  obtain rfl : u = .str x := h1.1
  exact q e H (h.vl h1)
/-! what is said of values (el) -/
abbrev Is (E : El K α) (L : List HA) (v : V) (x : α) : Prop := ∀ H, Holds L H → E.P H v x
abbrev IsE (E : Els K α) (L : List HA) (vs : List V) (x : α) : Prop := ∀ H, Holds L H → E.P H vs x
abbrev IsC (E : Ct K α) (L : List HA) (v : V) (x : α) : Prop := ∀ H, Holds L H → E.P H v x
abbrev IsCs (E : Cts K α) (L : List HA) (vs : List V) (x : α) : Prop := ∀ H, Holds L H → E.P H vs x
theorem is_I {n : Int} : Is (kI (K := K)) L (.int n) n := fun _ _ => rfl
theorem is_B {n : Bool} : Is (kB (K := K)) L (.bl n) n := fun _ _ => rfl
theorem is_S {n : Str} : Is (kS (K := K)) L (.str n) n := fun _ _ => rfl
theorem is_St {n : Str} (h : PyData.strOk n = true) : Is (kSt (K := K)) L (.str n) n := fun _ _ => ⟨rfl, h⟩
theorem is_N : Is (kN (K := K)) L .non () := fun _ _ => rfl
theorem is_no : Is (kO E) L .non none := fun _ _ => rfl
theorem is_so {x : α} (h : Is E L v x) : Is (kO E) L v (some x) := h
theorem is_v {x : α} (t : Take (vl E v x) L R) : Is E L v x := fun H h => t.vl h
theorem is_tup {Es : Els K α} {x : α} (t : Take (tu a us) L R) (h : IsE Es L us x) : Is (kTup Es) L (.ref a) x := fun H k => ⟨a, us, rfl, t.im k, h H k⟩
theorem is_nil : IsE (kNil (K := K)) L [] () := fun _ _ => rfl
theorem is_c {Es : Els K β} {x : α} {y : β} (h : Is E L v x) (h2 : IsE Es L us y) : IsE (kC E Es) L (v :: us) (x, y) := fun H k => ⟨v, us, rfl, h H k, h2 H k⟩
theorem is_c1 {x : α} (h : Is E L v x) : IsE (kC1 E) L [v] x := fun H k => ⟨v, rfl, h H k⟩
theorem is_ul {x : α} (h : Is E L v x) : Is (kU E F) L v (.inl x) := h
theorem is_ur {y : β} (h : Is F L v y) : Is (kU E F) L v (.inr y) := h
theorem isC_e {x : α} (h : Is E L v x) : IsC (ctE E) L v x := h
theorem isC_ls {xs : List α} (t : Take (ls E l xs) L R) : IsC (ctL (ctE E)) L (.ref l) xs := fun H h => by
  obtain ⟨vs, h1, h2⟩ := t.ls h
  exact ⟨l, vs, rfl, SqL.of h1, h2⟩
theorem isC_t {Es : Cts K α} {x : α} (t : Take (tu a us) L R) (h : IsCs Es L us x) : IsC (ctT Es) L (.ref a) x := fun H k => ⟨a, us, rfl, SqT.of (t.im k), h H k⟩
theorem isC_l {C : Ct K α} {xs : List α} (t : Take (pt l (.lst us)) L R) (h : ∀ H, Holds L H → All2 (C.P H) us xs) : IsC (ctL C) L (.ref l) xs := fun H k => ⟨l, us, rfl, SqL.of (t.pt k), h H k⟩
theorem isC_n : IsCs (ctN (K := K)) L [] () := fun _ _ => rfl
theorem isC_c {C : Ct K α} {Es : Cts K β} {x : α} {y : β} (h : IsC C L v x) (h2 : IsCs Es L us y) : IsCs (ctC C Es) L (v :: us) (x, y) := fun H k => ⟨v, us, rfl, h H k, h2 H k⟩
theorem isC_c1 {C : Ct K α} {x : α} (h : IsC C L v x) : IsCs (ctC1 C) L [v] x := fun H k => ⟨v, rfl, h H k⟩
theorem isA_nil {r : Hp → V → α → Prop} : ∀ H, Holds L H → All2 (r H) [] [] := fun _ _ => .nil
theorem isA_c {r : Hp → V → α → Prop} {x : α} {xs : List α} (h : ∀ H, Holds L H → r H v x) (h2 : ∀ H, Holds L H → All2 (r H) us xs) : ∀ H, Holds L H → All2 (r H) (v :: us) (x :: xs) := fun H k => .cons (h H k) (h2 H k)
/-- a written list is a list of the kind E -/
theorem take_lsD {xs : List α} (t : Take (pt l (.lst us)) L R) (h : ∀ H, Holds R H → All2 (E.P H) us xs) : Take (ls E l xs) L R := Sub.trans t (Sub.ls_i h)
theorem Sub.is {M' : List HA} {x : α} (h : Is E L v x) (s : Sub L M') : Sub L (vl E v x :: M') := Sub.vl_i h s
/-! ### steps that ask the mirror -/
theorem c_get {o : Option Int} {k : Int → Prop} (hm : obg o k) (t : Take (vl (K := K) (kO kI) v o) L R) (q : ∀ w, k w → v = .int w → Ent L φ) : Ent L φ := fun H h => by
  obtain ⟨w, rfl, hk⟩ := hm
  exact q w hk (t.vl h) H h
theorem c_getV {o : Option α} {k : α → Prop} (hm : obg o k) (t : Take (vl (kO E) v o) L R) (q : ∀ w, k w → Ent (vl E v w :: L) φ) : Ent L φ := fun H h => by
  obtain ⟨w, rfl, hk⟩ := hm
  exact q w hk H (h.vl (t.vl h))
theorem c_draw {n : Int} {k : Int → Prop} {E : XK} (hm : drw n k) (t : Take (PotA p) L R) (q : ∀ d, k d → Ent (PotA p :: R) (Q (.int d))) : Ent L fun H => aDraw [.ref p, .int n] H Q E := e_draw t hm.1 hm.2.1 fun d h0 h1 => q d (hm.2.2 d h0 h1)
theorem c_pick {xs : List α} {k : α → Prop} {X : XK} {s : Addr} (hm : pck xs k) (t : Take (PotA p) L R) (hl : Take (ls E s xs) R R') (q : ∀ w, k w → ∀ v, Ent (vl E v w :: PotA p :: R) (Q v)) : Ent L fun H => aPick K [.ref p, .ref s] H Q X := e_pickLs t hl hm.1.1 hm.1.2 fun d x v e => q x (hm.2 x (List.mem_of_getElem? e)) v
theorem c_ix {xs : List α} {i : Int} {k : α → Prop} (hm : obx (atI xs i) k) (t : Take (ls E l xs) L R) (q : ∀ w, k w → ∀ v, Ent (vl E v w :: L) (Q v)) : Ent L fun H => rIxL K (.ref l) (.int i) H Q := by
  obtain ⟨w, e, hk⟩ := hm
  exact e_ixLs t e (q w hk)
theorem c_I {C : Int → Int → Prop} {g : Int → Int → V} {i j : Int} {k : Prop} (hm : grd (C i j) k) (q : k → Ent L fun H => Q (g i j) H) : Ent L fun H => rI C g (.int i) (.int j) H Q := e_I hm.1 (q hm.2)
theorem c_app {xs : List α} {y : α} {k : Prop} (hm : grd (xs.length ≤ 100000) k) (t : Take (ls E l xs) L R) (hy : Is E L v y) (q : k → Ent (ls E l (xs ++ [y]) :: R) (Q .non)) : Ent L fun H => rAppend (.ref l) [v] H Q := e_appLs t hy hm.1 (q hm.2)
theorem c_set {xs : List α} {y : α} {i : Int} {k : Nat → Prop} (hm : obx (ixN xs.length i) k) (t : Take (ls E l xs) L R) (hy : Is E L v y) (q : ∀ j, k j → Ent (ls E l (xs.set j y) :: R) φ) : Ent L fun H => rSetL (.ref l) (.int i) v H φ := by
  obtain ⟨j, e, hk⟩ := hm
  exact e_setLs t e hy (q j hk)
theorem c_pop {xs : List α} {k : α → Prop} (hm : obx xs[xs.length - 1]? k) (t : Take (ls E l xs) L R) (q : ∀ w, k w → ∀ v, Ent (vl E v w :: ls E l xs.dropLast :: R) (Q v)) : Ent L fun H => rPop (.ref l) [] H Q := by
  obtain ⟨w, e, hk⟩ := hm
  exact e_popLs t e (q w hk)
def popI (xs : List α) (i : Int) : Option (Nat × α) := if -1000000 ≤ i ∧ i ≤ 1000000 then (seqIndex? i xs.length).bind fun j => xs[j]?.map fun y => (j, y) else none
theorem c_popAt {xs : List α} {i : Int} {k : Nat × α → Prop} (hm : obx (popI xs i) k) (t : Take (ls E l xs) L R) (q : ∀ w, k w → ∀ v, Ent (vl E v w.2 :: ls E l (xs.eraseIdx w.1) :: R) (Q v)) : Ent L fun H => rPopAt (.ref l) [.int i] H Q := by
  obtain ⟨⟨j, w⟩, e, hk⟩ := hm
  unfold popI at e
  by_cases c : -1000000 ≤ i ∧ i ≤ 1000000
  · rw [if_pos c] at e
    cases h1 : seqIndex? i xs.length with
    | none => rw [h1] at e; simp at e
    | some j' =>
      rw [h1] at e
      cases h2 : xs[j']? with
      | none => simp [h2] at e
      | some y' =>
        simp [h2] at e
        obtain ⟨e1, e2⟩ := e
        subst e1 e2
        exact e_popAtLs t c h1 h2 (q _ hk)
  · rw [if_neg c] at e; cases e
theorem c_cat {xs ys : List α} {k : Prop} (hm : grd (xs.length + ys.length ≤ 100000) k) (t : Take (ls E l xs) L R) (t2 : Take (ls E b ys) L R') (q : k → ∀ p, Ent (ls E p (xs ++ ys) :: L) (Q (.ref p))) : Ent L fun H => rCat (.ref l) (.ref b) H Q := e_catLs t t2 hm.1 (q hm.2)
/-! tests -/
theorem c_if {c : Prop} {i : Decidable c} [Decidable c] (hm : @ite _ c i X Y) (h1 : X → Ent L φ) (h2 : Y → Ent L ψ) : Ent L fun H => if decide c = true then φ H else ψ H := eS (fun z => h1 (by rwa [if_pos z] at hm)) fun z => h2 (by rwa [if_neg z] at hm)
theorem c_ifN {c : Prop} {i : Decidable c} [Decidable c] (hm : @ite _ c i X Y) (h1 : X → Ent L φ) (h2 : Y → Ent L ψ) : Ent L fun H => if (!decide c) = true then ψ H else φ H := eNS (fun z => h1 (by rwa [if_pos z] at hm)) fun z => h2 (by rwa [if_neg z] at hm)
theorem c_ifB {c : Bool} {i : Decidable (c = true)} (hm : @ite _ (c = true) i X Y) (h1 : X → Ent L φ) (h2 : Y → Ent L ψ) : Ent L fun H => @ite _ (c = true) (instDecidableEqBool c true) (φ H) (ψ H) := eB (fun z => h1 (by rwa [if_pos z] at hm)) fun z => h2 (by rwa [if_neg (by simp [z])] at hm)
theorem c_ifNB {c : Bool} {i : Decidable (c = true)} (hm : @ite _ (c = true) i X Y) (h1 : X → Ent L φ) (h2 : Y → Ent L ψ) : Ent L fun H => @ite _ ((!c) = true) (instDecidableEqBool (!c) true) (ψ H) (φ H) := eB (fun z => h2 (by rwa [if_neg (by simpa using z)] at hm)) fun z => h1 (by rwa [if_pos (by simpa using z)] at hm)
theorem e_isO {o : Option α} [ElN E] (t : Take (vl (kO E) v o) L R) (q : Ent L (Q (.bl o.isNone))) : Ent L fun H => V.non = .non ∧ Q (.bl (decide (v = .non))) H := fun H h => ⟨rfl, by
  have e : decide (v = V.non) = o.isNone := by
    have z := t.vl h
    cases o with
    | none => obtain rfl : v = .non := z; simp
    | some w => simpa using ElN.nv (E := E) H v w z
  rw [e]
  exact q H h⟩
theorem e_isOF (hv : v ≠ .non) (q : Ent L (Q (.bl false))) : Ent L fun H => V.non = .non ∧ Q (.bl (decide (v = .non))) H := fun H h => ⟨rfl, by rw [decide_eq_false hv]; exact q H h⟩
theorem e_isOT (q : Ent L (Q (.bl true))) : Ent L fun H => V.non = .non ∧ Q (.bl (decide (V.non = .non))) H := fun H h => ⟨rfl, by rw [decide_eq_true rfl]; exact q H h⟩
theorem e_noO {o : Option α} [ElN E] (t : Take (vl (kO E) v o) L R) (q : Ent L (Q (.bl (!o.isNone)))) : Ent L fun H => V.non = .non ∧ Q (.bl (!decide (v = .non))) H := fun H h => ⟨rfl, by
  have e : decide (v = V.non) = o.isNone := by
    have z := t.vl h
    cases o with
    | none => obtain rfl : v = .non := z; simp
    | some w => simpa using ElN.nv (E := E) H v w z
  rw [e]
  exact q H h⟩
theorem e_noOF (hv : v ≠ .non) (q : Ent L (Q (.bl true))) : Ent L fun H => V.non = .non ∧ Q (.bl (!decide (v = .non))) H := fun H h => ⟨rfl, by rw [decide_eq_false hv]; exact q H h⟩
theorem e_noOT (q : Ent L (Q (.bl false))) : Ent L fun H => V.non = .non ∧ Q (.bl (!decide (V.non = .non))) H := fun H h => ⟨rfl, by rw [decide_eq_true rfl]; exact q H h⟩
theorem e_eqC [DecidableEq α] {C : Ct K α} {i j : α} (h1 : IsC C L x i) (h2 : IsC C L y j) (q : Ent L (Q (.bl (decide (i = j))))) : Ent L fun H => rEqC C x y H Q := fun H h => ⟨i, j, h1 H h, h2 H h, q H h⟩
theorem e_neC [DecidableEq α] {C : Ct K α} {i j : α} (h1 : IsC C L x i) (h2 : IsC C L y j) (q : Ent L (Q (.bl (!decide (i = j))))) : Ent L fun H => rNeC C x y H Q := fun H h => ⟨i, j, h1 H h, h2 H h, q H h⟩
theorem e_inLs {xs : List Int} {i : Int} (t : Take (ls (K := K) kI l xs) L R) (q : Ent L (Q (.bl (decide (i ∈ xs))))) : Ent L fun H => rIn K false (.int i) (.ref l) H Q := fun H h => by
  obtain ⟨vs, h1, h2⟩ := t.ls h
  obtain rfl := all2_I h2
  exact ⟨l, _, rfl, .inl (SqL.of h1), rfl, flat_ints _, by rw [inV_int]; exact q H h⟩
theorem e_niLs {xs : List Int} {i : Int} (t : Take (ls (K := K) kI l xs) L R) (q : Ent L (Q (.bl (!decide (i ∈ xs))))) : Ent L fun H => rIn K true (.int i) (.ref l) H Q := fun H h => by
  obtain ⟨vs, h1, h2⟩ := t.ls h
  obtain rfl := all2_I h2
  exact ⟨l, _, rfl, .inl (SqL.of h1), rfl, flat_ints _, by rw [inV_int]; exact q H h⟩
/-! ### ends of turns, of joined ways -/
theorem c_end {nxt : M → Prop} {sg : M → B → St} {Pv : M → B → List HA} {m : M} (hm : nxt m) (b : B) (h : σ = sg m b) (s : Sub L (Pv m b)) : Ent L fun H => ∃ m b, nxt m ∧ σ = sg m b ∧ Holds (Pv m b) H := fun H z => ⟨m, b, hm, h, s.to z⟩
theorem c_brk {k : M → Prop} {sg : M → B → St} {Pv : M → B → List HA} {m : M} (hb : ∀ m b, k m → Ent (Pv m b) (nx (sg m b))) (hm : k m) (b : B) (h : σ = sg m b) (s : Sub L (Pv m b)) : Ent L (nx σ) := by
  subst h
  exact (hb m b hm).sub s
/-- ways joined behind a statement -/
theorem c_cut {B0 : Type} {k : M → Prop} {f : (M → Prop) → Prop} {t u : TS} (hm : jn k f) (u0 : B0 → List (Option (Option V))) (P0 : B0 → List HA) (up : M → B → List (Option (Option V))) (Pm : M → B → List HA) (b0 : B0) (h0 : σ = upds σ (u0 b0)) (s0 : Sub L (P0 b0 ++ R))
    (q : ∀ jp : M → Prop, f jp → Ent (P0 b0 ++ R) fun H => t ⟨fun σ' H' => ∃ m b, jp m ∧ σ' = upds σ (up m b) ∧ Holds (Pm m b ++ R) H', rt, bk, ct⟩ σ H)
    (hd : ∀ m b, k m → Ent (Pm m b ++ R) fun H => u ⟨nx, rt, bk, ct⟩ (upds σ (up m b)) H) : Ent L fun H => Evl.tCut t u ⟨nx, rt, bk, ct⟩ σ H := fun H h =>
  ⟨_, q k hm H (s0.to h), fun σ' H' ⟨m, b, hk, e, z⟩ => by subst e; exact hd m b hk H' z⟩
/-- a test looked through whole, ahead of its ways -/
theorem c_cutT {k : Bool → Prop} {f : (Bool → Prop) → Prop} {c : TT} {Q : Bool → Hp → Prop} (hm : jn k f) (q : ∀ jp : Bool → Prop, f jp → Ent L fun H => c σ H fun b H' => jp b ∧ Holds L H') (hd : ∀ b, k b → Ent L (Q b)) : Ent L fun H => tCutT c σ H Q := fun H h =>
  ⟨_, q k hm H h, fun b H' ⟨hk, z⟩ => hd b hk H' z⟩
theorem c_endT {jp : Bool → Prop} {b : Bool} (hm : jp b) (s : Sub L R) : Ent L fun H => jp b ∧ Holds R H := fun H h => ⟨hm, s.to h⟩
/-- an expression of one kind looked through whole -/
theorem c_cutE {k : α → Prop} {f : (α → Prop) → Prop} {te : TE} (E : El K α) (hm : jn k f) (q : ∀ jp : α → Prop, f jp → Ent L fun H => te σ H fun v H' => ∃ x, jp x ∧ Holds (vl E v x :: L) H') (hd : ∀ x, k x → ∀ v, Ent (vl E v x :: L) (Q v)) : Ent L fun H => tCutE te σ H Q := fun H h =>
  ⟨_, q k hm H h, fun v H' ⟨x, hk, z⟩ => hd x hk v H' z⟩
theorem c_endE {jp : α → Prop} {x : α} (hm : jp x) (s : Sub L (vl E v x :: R)) : Ent L fun H => ∃ x, jp x ∧ Holds (vl E v x :: R) H := fun H h => ⟨x, hm, s.to h⟩
/-! ### loops -/
theorem c_forLs {xs : List α} {m0 : M} {bd : α → M → (M → Prop) → (M → Prop) → Prop} {k : M → Prop} {g : TG} {tb : TS} (hm : forL xs m0 bd k) (up : M → B → List (Option (Option V))) (Pm : M → B → List HA) (b0 : B) (h0 : σ = upds σ (up m0 b0)) (s0 : Sub L (Pm m0 b0 ++ R)) (t : Take (ls E l xs) R R')
    (hs : (∀ m b, k m → Ent (Pm m b ++ R) (nx (upds σ (up m b)))) → ∀ x m b (nxt : M → Prop), bd x m nxt k → ∀ v, Ent (vl E v x :: (Pm m b ++ R)) fun H => g v (upds σ (up m b)) H fun σ2 H2 => tb ⟨fun σ' H' => ∃ m b, nxt m ∧ σ' = upds σ (up m b) ∧ Holds (Pm m b ++ R) H', rt, nx, fun σ' H' => ∃ m b, nxt m ∧ σ' = upds σ (up m b) ∧ Holds (Pm m b ++ R) H'⟩ σ2 H2)
    (hd : ∀ m b, k m → Ent (Pm m b ++ R) (nx (upds σ (up m b)))) : Ent L fun H => kFL K g tb ⟨nx, rt, bk, ct⟩ σ (.ref l) H := fun H h => by
  have w := walk_ls (E := E) l xs
  have hL : ∀ m b H', Holds (Pm m b ++ R) H' → ∃ vs, H' l = some (.lst vs) ∧ All2 (E.P H') vs xs := fun m b H' z => by
    obtain ⟨S, z⟩ := z
    obtain ⟨S1, S2, _, z2, _⟩ := HL.app.mp z
    exact t.ls ⟨S2, z2⟩
  have z := for_it w (D := ⟨nx, rt, bk, ct⟩) (g := g) (tb := tb) (σ := σ) (H := H) (fun i σ' H' => ∃ m b, forL (xs.drop i) m bd k ∧ i ≤ xs.length ∧ σ' = upds σ (up m b) ∧ Holds (Pm m b ++ R) H') ⟨m0, b0, hm, Nat.zero_le _, h0, s0.to h⟩ (fun i σ' H' _ ⟨m, b, _, _, _, z⟩ => hL m b H' z) (fun i x σ' H' H'' hi ⟨m, b, hf, _, e, z⟩ ⟨e2, y, hy, hp⟩ => by
      subst e e2
      have ed : xs.drop i = y :: xs.drop (i + 1) := by
        rw [List.drop_eq_getElem_cons hi]
        congr 1
        exact Option.some.inj ((List.getElem?_eq_getElem hi).symm.trans hy)
      rw [ed, forL_cons] at hf
      have r := hs hd y m b (fun m' => forL (xs.drop (i + 1)) m' bd k ∧ i + 1 ≤ xs.length) (by
        have : (fun m' => forL (xs.drop (i + 1)) m' bd k ∧ i + 1 ≤ xs.length) = fun m' => forL (xs.drop (i + 1)) m' bd k := by
          funext m'
          exact propext ⟨fun z => z.1, fun z => ⟨z, hi⟩⟩
        rw [this]
        exact hf) x H'' (z.vl hp)
      simpa only [and_assoc] using r) (fun σ' H' ⟨m, b, hf, _, e, z⟩ => by
      subst e
      rw [List.drop_length] at hf
      exact hd m b hf H' z)
  obtain ⟨vs, h1, h2⟩ := hL m0 b0 H (s0.to h)
  exact ⟨l, rfl, ⟨vs, SqL.of h1⟩, z⟩
def rgI (lo : Int) (n : Nat) : List Int := (List.range n).map fun i : Nat => lo + i
theorem rgI_len {lo : Int} {n : Nat} : (rgI lo n).length = n := by simp [rgI]
theorem rgI_get {lo : Int} {n i : Nat} (h : i < n) : (rgI lo n)[i]? = some (lo + i) := by simp [rgI, h]
theorem mem_rgI {lo : Int} {n : Nat} {i : Int} : i ∈ rgI lo n ↔ lo ≤ i ∧ i < lo + n := by
  unfold rgI
  rw [List.mem_map]
  constructor
  · rintro ⟨j, hj, rfl⟩
    rw [List.mem_range] at hj
    omega
  · intro ⟨h1, h2⟩
    exact ⟨(i - lo).toNat, by rw [List.mem_range]; omega, by omega⟩
theorem c_forR {j : Int} {m0 : M} {bd : Int → M → (M → Prop) → (M → Prop) → Prop} {k : M → Prop} {g : TG} {tb : TS} (hm : grd (-100000000 ≤ j ∧ j < 100000000) (forL (rgI 0 j.toNat) m0 bd k)) (up : M → B → List (Option (Option V))) (Pm : M → B → List HA) (b0 : B) (h0 : σ = upds σ (up m0 b0)) (s0 : Sub L (Pm m0 b0 ++ R))
    (hs : (∀ m b, k m → Ent (Pm m b ++ R) (nx (upds σ (up m b)))) → ∀ (x : Int) m b (nxt : M → Prop), bd x m nxt k → Ent (Pm m b ++ R) fun H => g (.int x) (upds σ (up m b)) H fun σ2 H2 => tb ⟨fun σ' H' => ∃ m b, nxt m ∧ σ' = upds σ (up m b) ∧ Holds (Pm m b ++ R) H', rt, nx, fun σ' H' => ∃ m b, nxt m ∧ σ' = upds σ (up m b) ∧ Holds (Pm m b ++ R) H'⟩ σ2 H2)
    (hd : ∀ m b, k m → Ent (Pm m b ++ R) (nx (upds σ (up m b)))) : Ent L fun H => kR1 g tb ⟨nx, rt, bk, ct⟩ σ [.int j] H := fun H h => by
  refine w_range1 (fun i σ' H' => ∃ m b, forL ((rgI 0 j.toNat).drop i) m bd k ∧ i ≤ j.toNat ∧ σ' = upds σ (up m b) ∧ Holds (Pm m b ++ R) H') hm.1 ⟨m0, b0, hm.2, Nat.zero_le _, h0, s0.to h⟩ (fun i σ' H' hi ⟨m, b, hf, _, e, z⟩ => ?_) (fun σ' H' ⟨m, b, hf, _, e, z⟩ => ?_)
  · subst e
    have hi' : i < j.toNat := by omega
    have ed : (rgI 0 j.toNat).drop i = (i : Int) :: (rgI 0 j.toNat).drop (i + 1) := by
      rw [List.drop_eq_getElem_cons (by rw [rgI_len]; exact hi')]
      congr 1
      have := rgI_get (lo := 0) hi'
      rw [List.getElem?_eq_getElem (by rw [rgI_len]; exact hi')] at this
      have := Option.some.inj this
      omega
    rw [ed, forL_cons] at hf
    have r := hs hd i m b (fun m' => forL ((rgI 0 j.toNat).drop (i + 1)) m' bd k ∧ i + 1 ≤ j.toNat) (by
        have : (fun m' => forL ((rgI 0 j.toNat).drop (i + 1)) m' bd k ∧ i + 1 ≤ j.toNat) = fun m' => forL ((rgI 0 j.toNat).drop (i + 1)) m' bd k := by
          funext m'
          exact propext ⟨fun z => z.1, fun z => ⟨z, hi'⟩⟩
        rw [this]
        exact hf) H' z
    simpa only [and_assoc] using r
  · subst e
    rw [List.drop_eq_nil_of_le (by rw [rgI_len]; exact Nat.le_refl _)] at hf
    exact hd m b hf H' z
/-! ### comprehensions -/
theorem c_lcLs {xs : List α} {bd : α → (Option β → Prop) → Prop} {k : List β → Prop} {g : TG} {tt : TT} {te : TE} {vs : List Nat} (E' : El K β) (hm : grd (xs.length ≤ 100000) (lcL xs [] bd k)) (t : Take (ls E l xs) L R)
    (step : ∀ x (nxt : Option β → Prop), bd x nxt → ∀ v D ys (r : VK) (s : Hp → Prop), (∀ v' y, nxt (some y) → Ent (vl E' v' y :: ls E' D ys :: L) (r v')) → (nxt none → Ent (ls E' D ys :: L) s) → Ent (vl E v x :: ls E' D ys :: L) fun H => g v (wipe σ vs) H fun σ2 H2 => wipe σ2 vs = wipe σ vs ∧ tt σ2 H2 fun b H3 => if b = true then te σ2 H3 r else s H3)
    (q : ∀ ys, k ys → ∀ D, Ent (ls E' D ys :: L) (Q (.ref D))) : Ent L fun H => kLc K g tt te vs σ Q (.ref l) H := fun H h => by
  obtain ⟨hz, hm⟩ := hm
  obtain ⟨ws, h1, h2⟩ := t.ls h
  refine ⟨l, rfl, ⟨ws, SqL.of h1⟩, fun D nD => ?_⟩
  refine lc_it (walk_ls (E := E) l xs) (fun i H' => ∃ ys, lcL (xs.drop i) ys bd k ∧ i ≤ xs.length ∧ ys.length ≤ i ∧ Holds (ls E' D ys :: L) H') ⟨[], hm, Nat.zero_le _, Nat.le_refl _, h.ls_new nD .nil⟩ (fun i H' _ ⟨ys, _, _, _, p⟩ => t.ls (Sub.to (Sub.drop Sub.refl) p)) (fun i v H' H'' hi ⟨ys, hf, _, hy, p⟩ ⟨e, x, hx, hp⟩ => ?_) (fun H' ⟨ys, hf, _, _, p⟩ => q ys (by rw [List.drop_length] at hf; exact hf) D H' p)
  subst e
  have ed : xs.drop i = x :: xs.drop (i + 1) := by
    rw [List.drop_eq_getElem_cons hi]
    congr 1
    exact Option.some.inj ((List.getElem?_eq_getElem hi).symm.trans hx)
  rw [ed, lcL] at hf
  refine step x _ hf v D ys _ _ (fun v' y hy' H4 z => ?_) (fun hn H3 z => ?_) _ (p.vl hp)
  · obtain ⟨ac, z1, z2⟩ := Holds.ls_op (Sub.to (Sub.drop Sub.refl) z)
    have z3 : E'.P H4 v' y := Take.vl take_here z
    refine ⟨ac, z1.pt_get, ?_, ys ++ [y], hy', hi, by simp; omega, Holds.ls_upd (Sub.to (Sub.drop Sub.refl) z) (z2.app (.one z3))⟩
    rw [z2.len]
    exact Nat.lt_of_le_of_lt (by omega : ys.length ≤ 100000) (by decide : 100000 < sizeLine)
  · exact ⟨ys, by simpa using hn, hi, by omega, z⟩
/-! ### opening on demand -/
theorem c_opnIx {Es : Els K α} {x : α} {i : V} (t : Take (vl (kTup Es) v x) L R) (q : ∀ a us, v = .ref a → Ent (vEls Es us x :: tu a us :: L) fun H => rIxT K v i H Q) : Ent L fun H => rIxT K v i H Q := Ent.tupO t q
theorem c_opnG {Es : Els K α} {x : α} {n : Nat} {ts : TGs} {Q : St → Hp → Prop} (t : Take (vl (kTup Es) v x) L R) (q : ∀ a us, v = .ref a → Ent (vEls Es us x :: tu a us :: L) fun H => gTup K n ts v σ H Q) : Ent L fun H => gTup K n ts v σ H Q := Ent.tupO t q
theorem Ent.swp {A B : HA} (q : Ent (B :: A :: L) φ) : Ent (A :: B :: L) φ := q.sub Sub.swap
/-! ### more of lists -/
theorem e_appDrop {xs : List α} {y : V} {k : Prop} (hm : grd (xs.length ≤ 100000) k) (t : Take (ls E l xs) L R) (q : k → Ent R (Q .non)) : Ent L fun H => rAppend (.ref l) [y] H Q := fun H h => by
  obtain ⟨vs, h1, h2⟩ := t.ls h
  obtain ⟨ws, h3, _⟩ := (t.to h).ls_op
  exact ⟨l, vs, y, rfl, rfl, h1, by rw [h2.len]; exact Nat.lt_of_le_of_lt hm.1 (by decide), q hm.2 _ (Sub.to (Sub.drop Sub.refl) (h3.upd (u := .lst (vs ++ [y])) rfl))⟩
def srt (ns : List Int) : List Int := ns.mergeSort fun a b => decide (a ≤ b)
theorem srt_perm (ns : List Int) : (srt ns).Perm ns := List.mergeSort_perm ..
theorem srt_le (ns : List Int) : (srt ns).Pairwise (· ≤ ·) := by
  have := List.pairwise_mergeSort (le := fun a b : Int => decide (a ≤ b)) (fun a b c h1 h2 => by simp at *; omega) (fun a b => by simp; omega) ns
  exact this.imp fun h => by simpa using h
theorem perm_srt : ∀ {xs ys : List Int}, xs.Perm ys → xs.Pairwise (· ≤ ·) → ys.Pairwise (· ≤ ·) → xs = ys
  | [], ys, p, _, _ => (List.Perm.nil_eq p)
  | x :: xs, [], p, _, _ => absurd p.length_eq (by simp)
  | x :: xs, y :: ys, p, h1, h2 => by
    have e : x = y := by
      have hx : x ∈ y :: ys := p.mem_iff.mp (List.mem_cons_self ..)
      have hy : y ∈ x :: xs := p.mem_iff.mpr (List.mem_cons_self ..)
      rcases List.mem_cons.mp hx with e | hx
      · exact e
      · rcases List.mem_cons.mp hy with e | hy
        · exact e.symm
        · have a := (List.pairwise_cons.mp h2).1 x hx
          have b := (List.pairwise_cons.mp h1).1 y hy
          omega
    subst e
    rw [perm_srt (List.Perm.cons_inv p) (List.pairwise_cons.mp h1).2 (List.pairwise_cons.mp h2).2]
theorem srt_eq {ns ms : List Int} (p : ms.Perm ns) (h : ms.Pairwise (· ≤ ·)) : srt ns = ms := perm_srt ((srt_perm ns).trans p.symm) (srt_le ns) h
theorem srt_self {ns : List Int} (h : ns.Pairwise (· ≤ ·)) : srt ns = ns := srt_eq (List.Perm.refl _) h
theorem e_sort {ns : List Int} (t : Take (ls (kI (K := K)) l ns) L R) (q : ∀ p, Ent (ls (kI (K := K)) p (srt ns) :: L) (Q (.ref p))) : Ent L fun H => rSortedI K [.ref l] H Q := e_sortI t fun ns' p hp hs => by rw [← srt_eq hp hs]; exact q p
def enF {α : Type} : Int → List α → List (Int × α)
  | _, [] => []
  | i, x :: xs => (i, x) :: enF (i + 1) xs
def enI {α : Type} (xs : List α) : List (Int × α) := enF 0 xs
theorem enF_len : ∀ {j : Int} {xs : List α}, (enF j xs).length = xs.length
  | _, [] => rfl
  | j, x :: xs => by simp [enF, enF_len (xs := xs)]
theorem enI_len {xs : List α} : (enI xs).length = xs.length := enF_len
theorem enF_get : ∀ {j : Int} {xs : List α} {i : Nat} {x : α}, xs[i]? = some x → (enF j xs)[i]? = some (j + (i : Int), x)
  | j, [], i, x, h => by simp at h
  | j, y :: xs, 0, x, h => by simp at h; subst h; simp [enF]
  | j, y :: xs, i + 1, x, h => by
    have := enF_get (j := j + 1) (xs := xs) (i := i) (x := x) (by simpa using h)
    simp only [enF, List.getElem?_cons_succ, this]
    congr 2
    omega
theorem enI_get {xs : List α} {i : Nat} {x : α} (h : xs[i]? = some x) : (enI xs)[i]? = some ((i : Int), x) := by
  have := enF_get (j := 0) h
  rwa [Int.zero_add] at this
theorem enI_of {xs : List α} {i : Nat} {p : Int × α} (h : (enI xs)[i]? = some p) : p.1 = i ∧ xs[i]? = some p.2 := by
  have hi := (List.getElem?_eq_some_iff.mp h).1
  rw [enI_len] at hi
  have := enI_get (List.getElem?_eq_getElem hi)
  rw [h] at this
  obtain rfl := Option.some.inj this
  exact ⟨rfl, List.getElem?_eq_getElem hi⟩
theorem enI_map {xs : List α} : (enI xs).map (·.2) = xs := by
  unfold enI
  generalize (0 : Int) = j
  induction xs generalizing j with
  | nil => rfl
  | cons x xs ih => simp [enF, ih]
/-- [.. for i, x in enumerate(l)] -/
theorem c_lcEn {xs : List α} {bd : Int × α → (Option β → Prop) → Prop} {k : List β → Prop} {g : TG} {tt : TT} {te : TE} {vs : List Nat} (E' : El K β) (hm : grd (xs.length ≤ 100000) (lcL (enI xs) [] bd k)) (t : Take (ls E l xs) L R)
    (step : ∀ x (nxt : Option β → Prop), bd x nxt → ∀ T v D ys (r : VK) (s : Hp → Prop), (∀ v' y, nxt (some y) → Ent (vl E' v' y :: ls E' D ys :: L) (r v')) → (nxt none → Ent (ls E' D ys :: L) s) → Ent (tu T [.int x.1, v] :: vl E v x.2 :: ls E' D ys :: L) fun H => g (.ref T) (wipe σ vs) H fun σ2 H2 => wipe σ2 vs = wipe σ vs ∧ tt σ2 H2 fun b H3 => if b = true then te σ2 H3 r else s H3)
    (q : ∀ ys, k ys → ∀ D, Ent (ls E' D ys :: L) (Q (.ref D))) : Ent L fun H => kLcEn K g tt te vs σ Q [.ref l] H := fun H h => by
  obtain ⟨hz, hm⟩ := hm
  obtain ⟨ws, h1, h2⟩ := t.ls h
  refine ⟨l, ws, rfl, SqL.of h1, fun D nD => ?_⟩
  have w : Walk (Ite K l) xs.length (fun H => ∃ vs, H l = some (.lst vs) ∧ All2 (E.P H) vs xs) (fun i H v H' => ∃ T x u, v = .ref T ∧ H T = none ∧ H' = upd H T (.tup [.int i, u]) ∧ xs[i]? = some x ∧ E.P H u x) :=
    ⟨fun i H hi ⟨vs, z1, z2⟩ => (walk_enum (K := K) (a := l) (xs := vs)).goes i H (by rw [z2.len]; exact hi) (SqL.of z1), fun H ⟨vs, z1, z2⟩ => by
      have := (walk_enum (K := K) (a := l) (xs := vs)).stops H (SqL.of z1)
      rw [z2.len] at this
      exact this, fun i H x H' hi ⟨vs, z1, z2⟩ y => by
      obtain ⟨T, a, b, e1, e2, e3, e4, e5⟩ := (walk_enum (K := K) (a := l) (xs := vs)).yields i H x H' (by rw [z2.len]; exact hi) (SqL.of z1) y
      obtain rfl : V.int (i : Nat) = a := Option.some.inj e4
      obtain ⟨x', hx, hp⟩ := z2.get e5
      exact ⟨T, x', b, e1, e2, e3, hx, hp⟩⟩
  refine lc_it w (fun i H' => ∃ ys, lcL ((enI xs).drop i) ys bd k ∧ i ≤ xs.length ∧ ys.length ≤ i ∧ Holds (ls E' D ys :: L) H') ⟨[], hm, Nat.zero_le _, Nat.le_refl _, h.ls_new nD .nil⟩ (fun i H' _ ⟨ys, _, _, _, p⟩ => t.ls (Sub.to (Sub.drop Sub.refl) p)) (fun i v H' H'' hi ⟨ys, hf, _, hy, p⟩ ⟨T, x, u, e, nT, eH, hx, hp⟩ => ?_) (fun H' ⟨ys, hf, _, _, p⟩ => q ys (by rw [List.drop_eq_nil_of_le (by rw [enI_len]; exact Nat.le_refl _)] at hf; exact hf) D H' p)
  subst e eH
  have ed : (enI xs).drop i = ((i : Int), x) :: (enI xs).drop (i + 1) := by
    rw [List.drop_eq_getElem_cons (by rw [enI_len]; exact hi)]
    congr 1
    exact Option.some.inj ((List.getElem?_eq_getElem (by rw [enI_len]; exact hi)).symm.trans (enI_get hx))
  rw [ed, lcL] at hf
  have z0 : Holds (tu T [.int i, u] :: vl E u x :: ls E' D ys :: L) (upd H' T (.tup [.int i, u])) := Sub.to Sub.swap (by
    have z := (p.newI (o := .tup [.int i, u]) nT rfl).vl (E := E) (x := x) (v := u) (E.st hp (keepI_new nT))
    exact z)
  refine step ((i : Int), x) _ hf T u D ys _ _ (fun v' y hy' H4 z => ?_) (fun hn H3 z => ?_) _ z0
  · obtain ⟨ac, z1, z2⟩ := Holds.ls_op (Sub.to (Sub.drop Sub.refl) z)
    have z3 : E'.P H4 v' y := Take.vl take_here z
    refine ⟨ac, z1.pt_get, ?_, ys ++ [y], hy', hi, by simp; omega, Holds.ls_upd (Sub.to (Sub.drop Sub.refl) z) (z2.app (.one z3))⟩
    rw [z2.len]
    exact Nat.lt_of_le_of_lt (by omega : ys.length ≤ 100000) (by decide : 100000 < sizeLine)
  · exact ⟨ys, by simpa using hn, hi, by omega, z⟩
theorem take_of {A : HA} (h : Sub L (A :: R)) : Take A L R := h
def rIsN : R2 := fun x y H Q => y = .non ∧ Q (.bl (decide (x = .non))) H
def rNoN : R2 := fun x y H Q => y = .non ∧ Q (.bl (!decide (x = .non))) H
theorem op_isNR {X : Cx} : OpR X (compareOp .Is) rIsN := op_isN
theorem op_noNR {X : Cx} : OpR X (compareOp .IsNot) rNoN := op_notN
theorem c_isO {o : Option α} (t : Take (vl (kO E) v o) L R) (n : ElN E) (q : Ent L (Q (.bl o.isNone))) : Ent L fun H => rIsN v .non H Q := e_isO t q
theorem c_isF (hv : v ≠ .non) (q : Ent L (Q (.bl false))) : Ent L fun H => rIsN v .non H Q := e_isOF hv q
theorem c_isT (q : Ent L (Q (.bl true))) : Ent L fun H => rIsN .non .non H Q := e_isOT q
theorem c_noO {o : Option α} (t : Take (vl (kO E) v o) L R) (n : ElN E) (q : Ent L (Q (.bl (!o.isNone)))) : Ent L fun H => rNoN v .non H Q := e_noO t q
theorem c_noF (hv : v ≠ .non) (q : Ent L (Q (.bl true))) : Ent L fun H => rNoN v .non H Q := e_noOF hv q
theorem c_noT (q : Ent L (Q (.bl false))) : Ent L fun H => rNoN .non .non H Q := e_noOT q
theorem rt_law {b : Bool} {Q : VK} (hm : b = true) (q : ∀ H', Q (.bl true) H') : Ent L (Q (.bl b)) := fun H _ => by rw [hm]; exact q H
theorem c_ixT {xs : List α} {i : Int} {k : α → Prop} (hm : obx (atI xs i) k) (t : Take (vl (kT E) v xs) L R) (q : ∀ w, k w → ∀ u, Ent (vl E u w :: L) (Q u)) : Ent L fun H => rIxT K v (.int i) H Q := fun H h => by
  obtain ⟨w, e, hk⟩ := hm
  obtain ⟨a, us, rfl, h1, h2⟩ := t.vl h
  have el := h2.len
  unfold atI at e
  cases j : ixN xs.length i with
  | none => rw [j] at e; cases e
  | some j' =>
    rw [j] at e
    obtain ⟨u, hu, hp⟩ := h2.getR e
    exact ⟨a, us, i, u, rfl, rfl, h1, by unfold atI; rw [el, j]; exact hu, q w hk u H (h.vl hp)⟩
theorem c_lenT {xs : List α} (t : Take (vl (kT E) v xs) L R) (q : Ent L (Q (.int xs.length))) : Ent L fun H => rLenK K [v] H Q := fun H h => by
  obtain ⟨a, us, rfl, h1, h2⟩ := t.vl h
  exact ⟨a, us, rfl, .inr h1, by rw [h2.len]; exact q H h⟩
theorem walk_kT (xs : List α) (us : List V) (a : Addr) : Walk (Itt K a) xs.length (fun H => SqT K H a us ∧ All2 (E.P H) us xs) (fun i H x H' => H' = H ∧ ∃ e, xs[i]? = some e ∧ E.P H x e) :=
  ⟨fun i H hi ⟨h1, h2⟩ => by
    obtain ⟨v, hv, _⟩ := h2.getR (List.getElem?_eq_getElem hi)
    exact ⟨us, v, h1, hv⟩, fun H ⟨h1, h2⟩ => ⟨us, h1, Nat.le_of_eq h2.len⟩, fun i H x H' hi ⟨h1, h2⟩ ⟨e, y⟩ => ⟨e, h2.get (y us h1)⟩⟩
theorem walk_kT' (xs : List α) (a : Addr) : Walk (Itt K a) xs.length (fun H => (kT E).P H (.ref a) xs) (fun i H x H' => H' = H ∧ ∃ e, xs[i]? = some e ∧ E.P H x e) :=
  ⟨fun i H hi ⟨a', us, e, h1, h2⟩ => by
    cases e
    exact (walk_kT xs us a).goes i H hi ⟨h1, h2⟩, fun H ⟨a', us, e, h1, h2⟩ => by
    cases e
    exact (walk_kT xs us a).stops H ⟨h1, h2⟩, fun i H x H' hi ⟨a', us, e, h1, h2⟩ y => by
    cases e
    exact (walk_kT xs us a).yields i H x H' hi ⟨h1, h2⟩ y⟩
theorem c_forT {xs : List α} {m0 : M} {bd : α → M → (M → Prop) → (M → Prop) → Prop} {k : M → Prop} {g : TG} {tb : TS} (hm : forL xs m0 bd k) (up : M → B → List (Option (Option V))) (Pm : M → B → List HA) (b0 : B) (h0 : σ = upds σ (up m0 b0)) (s0 : Sub L (Pm m0 b0 ++ R)) (t : Take (vl (kT E) v xs) R R')
    (hs : (∀ m b, k m → Ent (Pm m b ++ R) (nx (upds σ (up m b)))) → ∀ x m b (nxt : M → Prop), bd x m nxt k → ∀ v, Ent (vl E v x :: (Pm m b ++ R)) fun H => g v (upds σ (up m b)) H fun σ2 H2 => tb ⟨fun σ' H' => ∃ m b, nxt m ∧ σ' = upds σ (up m b) ∧ Holds (Pm m b ++ R) H', rt, nx, fun σ' H' => ∃ m b, nxt m ∧ σ' = upds σ (up m b) ∧ Holds (Pm m b ++ R) H'⟩ σ2 H2)
    (hd : ∀ m b, k m → Ent (Pm m b ++ R) (nx (upds σ (up m b)))) : Ent L fun H => kFT K g tb ⟨nx, rt, bk, ct⟩ σ v H := fun H h => by
  have hT : ∀ m b H', Holds (Pm m b ++ R) H' → (kT E).P H' v xs := fun m b H' z => by
    obtain ⟨S, z⟩ := z
    obtain ⟨S1, S2, _, z2, _⟩ := HL.app.mp z
    exact t.vl ⟨S2, z2⟩
  obtain ⟨a, us, e, h1, h2⟩ := hT m0 b0 H (s0.to h)
  subst e
  have z := for_it (walk_kT' (E := E) xs a) (D := ⟨nx, rt, bk, ct⟩) (g := g) (tb := tb) (σ := σ) (H := H) (fun i σ' H' => ∃ m b, forL (xs.drop i) m bd k ∧ i ≤ xs.length ∧ σ' = upds σ (up m b) ∧ Holds (Pm m b ++ R) H') ⟨m0, b0, hm, Nat.zero_le _, h0, s0.to h⟩ (fun i σ' H' _ ⟨m, b, _, _, _, z⟩ => hT m b H' z) (fun i x σ' H' H'' hi ⟨m, b, hf, _, e, z⟩ ⟨e2, y, hy, hp⟩ => by
      subst e e2
      have ed : xs.drop i = y :: xs.drop (i + 1) := by
        rw [List.drop_eq_getElem_cons hi]
        congr 1
        exact Option.some.inj ((List.getElem?_eq_getElem hi).symm.trans hy)
      rw [ed, forL_cons] at hf
      have r := hs hd y m b (fun m' => forL (xs.drop (i + 1)) m' bd k ∧ i + 1 ≤ xs.length) (by
        have : (fun m' => forL (xs.drop (i + 1)) m' bd k ∧ i + 1 ≤ xs.length) = fun m' => forL (xs.drop (i + 1)) m' bd k := by
          funext m'
          exact propext ⟨fun z => z.1, fun z => ⟨z, hi⟩⟩
        rw [this]
        exact hf) x H'' (z.vl hp)
      simpa only [and_assoc] using r) (fun σ' H' ⟨m, b, hf, _, e, z⟩ => by
      subst e
      rw [List.drop_length] at hf
      exact hd m b hf H' z)
  exact ⟨a, rfl, ⟨us, h1⟩, z⟩
abbrev max2 (i j : Int) : Int := if j > i then j else i
abbrev min2 (i j : Int) : Int := if j < i then j else i
def minI : List Int → Option Int
  | [] => none
  | x :: xs => some (xs.foldl (fun a b => if b < a then b else a) x)
def maxI : List Int → Option Int
  | [] => none
  | x :: xs => some (xs.foldl (fun a b => if b > a then b else a) x)
theorem minI_of : ∀ {ns : List Int} {w : Int}, minI ns = some w → w ∈ ns ∧ ∀ x ∈ ns, w ≤ x
  | [], w, h => by cases h
  | x :: xs, w, h => by
    have key : ∀ (ys : List Int) (a : Int), (ys.foldl (fun a b => if b < a then b else a) a = a ∨ ys.foldl (fun a b => if b < a then b else a) a ∈ ys) ∧ ys.foldl (fun a b => if b < a then b else a) a ≤ a ∧ ∀ y ∈ ys, ys.foldl (fun a b => if b < a then b else a) a ≤ y := by
      intro ys
      induction ys with
      | nil => intro a; simp
      | cons y ys ih =>
        intro a
        obtain ⟨h1, h2, h3⟩ := ih (if y < a then y else a)
        simp only [List.foldl_cons]
        refine ⟨?_, ?_, fun z hz => ?_⟩
        · rcases h1 with h1 | h1
          · rw [h1]
            by_cases c : y < a
            · rw [if_pos c]; exact .inr (List.mem_cons_self ..)
            · rw [if_neg c]; exact .inl rfl
          · exact .inr (List.mem_cons_of_mem _ h1)
        · by_cases c : y < a
          · rw [if_pos c] at h2 ⊢; omega
          · rw [if_neg c] at h2 ⊢; exact h2
        · rcases List.mem_cons.mp hz with e | hz
          · subst e
            by_cases c : z < a
            · rw [if_pos c] at h2 ⊢; exact h2
            · rw [if_neg c] at h2 ⊢; omega
          · exact h3 z hz
    obtain rfl : xs.foldl (fun a b => if b < a then b else a) x = w := Option.some.inj h
    obtain ⟨h1, h2, h3⟩ := key xs x
    refine ⟨?_, fun z hz => ?_⟩
    · rcases h1 with h1 | h1
      · rw [h1]; exact List.mem_cons_self ..
      · exact List.mem_cons_of_mem _ h1
    · rcases List.mem_cons.mp hz with e | hz
      · subst e; exact h2
      · exact h3 z hz
theorem c_min {ns : List Int} {k : Int → Prop} (hm : obx (minI ns) k) (t : Take (ls (kI (K := K)) l ns) L R) (q : ∀ w, k w → Ent L (Q (.int w))) : Ent L fun H => rMin K [.ref l] H Q := fun H h => by
  obtain ⟨w, e, hk⟩ := hm
  obtain ⟨vs, h1, h2⟩ := t.ls h
  obtain rfl := all2_I h2
  obtain ⟨e1, e2⟩ := minI_of e
  refine ⟨l, ns, rfl, SqL.of h1, List.length_pos_of_mem e1, fun m hm hle => ?_⟩
  have a := hle w e1
  have b := e2 m hm
  obtain rfl : m = w := by omega
  exact q m hk H h
theorem all2_rep {r : V → α → Prop} {us : List V} {xs : List α} (h : All2 r us xs) : ∀ n : Nat, All2 r (List.replicate n us).flatten (List.replicate n xs).flatten
  | 0 => .nil
  | n + 1 => by
    rw [List.replicate_succ, List.replicate_succ, List.flatten_cons, List.flatten_cons]
    exact h.app (all2_rep h n)
theorem c_rep {xs : List α} {n : Int} {k : Prop} (hm : grd (-100000 ≤ n ∧ n ≤ 100000 ∧ xs.length ≤ 100) k) (t : Take (ls E l xs) L R) (q : k → ∀ p, Ent (ls E p (List.replicate n.toNat xs).flatten :: L) (Q (.ref p))) : Ent L fun H => rRep (.ref l) (.int n) H Q := fun H h => by
  obtain ⟨vs, h1, h2⟩ := t.ls h
  exact w_rep h1 hm.1.1 hm.1.2.1 (by rw [h2.len]; exact hm.1.2.2) fun p np => q hm.2 p _ (h.ls_new np (all2_rep h2 _))
def obu0 (o : α ⊕ β) (k : α → Prop) : Prop := ∃ x, o = .inl x ∧ k x
def obu1 (o : α ⊕ β) (k : β → Prop) : Prop := ∃ x, o = .inr x ∧ k x
theorem obu0_l {x : α} {k : α → Prop} : obu0 (.inl x : α ⊕ β) k = k x := by simp [obu0]
theorem obu1_r {x : β} {k : β → Prop} : obu1 (.inr x : α ⊕ β) k = k x := by simp [obu1]
theorem obu1_l {x : α} {k : β → Prop} : obu1 (.inl x : α ⊕ β) k = False := by simp [obu1]
theorem c_getU0 {o : α ⊕ β} {k : α → Prop} (hm : obu0 o k) (t : Take (vl (kU E F) v o) L R) (q : ∀ w, k w → Ent (vl E v w :: L) φ) : Ent L φ := fun H h => by
  obtain ⟨w, rfl, hk⟩ := hm
  exact q w hk H (h.vl (t.vl h))
theorem c_getU1 {o : α ⊕ β} {k : β → Prop} (hm : obu1 o k) (t : Take (vl (kU E F) v o) L R) (q : ∀ w, k w → Ent (vl F v w :: L) φ) : Ent L φ := fun H h => by
  obtain ⟨w, rfl, hk⟩ := hm
  exact q w hk H (h.vl (t.vl h))
/-! two kinds told apart by their lengths -/
class ElsLen (Es : Els K α) where
  n : Nat
  len : ∀ x, (Es.d x).length = n
instance : ElsLen (kNil (K := K)) := ⟨0, fun _ => rfl⟩
instance {A : El K α} : ElsLen (kC1 A) := ⟨1, fun _ => rfl⟩
instance {A : El K α} {B : Els K β} [l : ElsLen B] : ElsLen (kC A B) := ⟨l.n + 1, fun x => by show (A.d x.1 :: B.d x.2).length = _; rw [List.length_cons, l.len]⟩
theorem eqvAll_len : ∀ {xs ys : List PyData}, xs.length ≠ ys.length → PyData.eqvAll xs ys = false
  | [], [], h => absurd rfl h
  | [], y :: ys, _ => by simp [PyData.eqvAll]
  | x :: xs, [], _ => by simp [PyData.eqvAll]
  | x :: xs, y :: ys, h => by
    simp only [PyData.eqvAll]
    rw [eqvAll_len (xs := xs) (ys := ys) (by simpa using h), Bool.and_false]
class Apart (A : El K α) (B : El K β) : Prop where
  l : ∀ x y, PyData.eqv (A.d x) (B.d y) = false
  r : ∀ x y, PyData.eqv (B.d y) (A.d x) = false
theorem apart_of {A : Els K α} {B : Els K β} [l : ElsLen A] [m : ElsLen B] (h : l.n ≠ m.n) : Apart (kTup A) (kTup B) := ⟨fun x y => by
  show PyData.eqv (.tuple (A.d x)) (.tuple (B.d y)) = false
  rw [PyData.eqv]
  exact eqvAll_len (by rw [l.len, m.len]; exact h), fun x y => by
  show PyData.eqv (.tuple (B.d y)) (.tuple (A.d x)) = false
  rw [PyData.eqv]
  exact eqvAll_len (by rw [l.len, m.len]; exact fun z => h z.symm)⟩
instance [DecidableEq α] [DecidableEq β] {A : El K α} {B : El K β} [D : ElD A] [G : ElD B] [P : Apart A B] : ElD (kU A B) := ⟨max D.n G.n, fun {H v x} h => by
  cases x with
  | inl a => exact D.lay (show A.P H v a from h)
  | inr b => exact G.lay (show B.P H v b from h), fun x => by
  cases x with
  | inl a => have := D.dep a; show (A.d a).depth ≤ _; omega
  | inr b => have := G.dep b; show (B.d b).depth ≤ _; omega, fun x y => by
  cases x with
  | inl a => cases y with
    | inl b => show PyData.eqv (A.d a) (A.d b) = _; rw [D.eqv]; simp
    | inr b => show PyData.eqv (A.d a) (B.d b) = _; rw [P.l]; simp
  | inr a => cases y with
    | inl b => show PyData.eqv (B.d a) (A.d b) = _; rw [P.r]; simp
    | inr b => show PyData.eqv (B.d a) (B.d b) = _; rw [G.eqv]; simp⟩
theorem c_wantMany {C : Addr} {X : XK} {x lo hi : Int} {k : Prop} (hm : grd (lo ≤ x ∧ x ≤ hi ∧ 0 ≤ x) k) (q : k → Ent L (Q .non)) : Ent L fun H => spWantMany K C [.int x, .int lo, .int hi] H Q X := e_wantMany hm.1.2.2 hm.1.1 hm.1.2.1 (q hm.2)
theorem c_wantWord {C : Addr} {X : XK} {x : Int} {k : Prop} (hm : grd (W16 x) k) (q : k → Ent L (Q .non)) : Ent L fun H => spWantWord K C [.int x] H Q X := e_wantWord hm.1 (q hm.2)
theorem c_W1 {X : XK} {ok : Int → Prop} {x : Int} {k : Prop} (hm : grd (ok x) k) (q : k → Ent L (Q .non)) : Ent L fun H => aW1 ok [.int x] H Q X := e_W1 hm.1 (q hm.2)
end
end Toy
namespace Toy
open PySem L2 PySem.Spec PyProof.Rows
/-! ## defs that are run where no repr is under way -/
structure FnG (P : Program) (w : World) (K : PySem.W.Frag) (mg : Str → Option Value) (base : Heap) (CX : CXT) (k : Nat) (f : Addr) (fd : FuncData) (ps : List Str) (sp : Sp) : Prop where
  many : ∀ vs H Q E, sp vs H Q E → vs.length = ps.length
  go : ∀ (A : Around) (out : List Env) (s : Shared) (H : Hp) (ar : Args) (us : List Value) (vs : List V) (Q : VK) (E : XK), A.guards = some [] → Room k A → Env0 P w K mg base A out s H →
    BindsTo s fd ar (ps.zip us) → Vals vs us → sp vs H Q E → codeAny (model P w) A (.call (.ref f) ar) (CR CX out P w H s Q E) s
section
variable {P : Program} {w : World} {K : PySem.W.Frag} {mg : Str → Option Value} {base : Heap} {k : Nat} {f : Addr} {fd : FuncData} {ps : List Str} {sp : Sp}
theorem FnG.of {CX : CXT} (F : FnOk P w K mg base CX k f fd ps sp) : FnG P w K mg base CX k f fd ps sp :=
  ⟨F.len, fun A out s H ar us vs Q E _ hr he hb hv hs => F.run A out s H ar us vs Q E hr he hb hv hs⟩
theorem okG {x qual : Str} {st : Stmt} {N : List Str} (F : Fun K x qual st f fd) (S : FnScope N ps (defScope st)) (many : ∀ vs H Q E, sp vs H Q E → vs.length = ps.length)
    (body : ∀ (cdv : Value) (A : Around) (out : List Env) (s : Shared) (H : Hp) (vs : List V) (Q : VK) (E : XK), A.guards = some [] → Room k (A.deeper (envOfC qual (defScope st) s.heap.objs.size f cdv)) → sp vs H Q E →
      ∃ t, PSs (cxOf (L2.CX P w) P w K mg base N qual (defScope st) f cdv A out s H E) (defBody st) t ∧ t ⟨fun _ H' => Q .non H', Q, fun _ _ => False, fun _ _ => False⟩ (start N vs) H) :
    FnG P w K mg base (L2.CX P w) (k + 1) f fd ps sp := by
  obtain ⟨oc, od, kV, dc, pm, an, cv, ct, sl, rfl, at_, cin⟩ := F.ex
  refine ⟨many, fun A out s H ar us vs Q E hg hr e0 hb r q => ?_⟩
  have size := many _ _ _ _ q
  have KX : K.In s.heap := e0.mod.kin.keeps fun b o e => (e0.bs b o e).1
  have lim : s.heap.NoLimit := e0.mod.nolimit.keeps fun b o e => (e0.bs b o e).1
  have names : ∀ y ∈ ps.zip us, (defScope st).names.lookup y.1 = some .local ∨ ((defScope st).names.lookup y.1 = some .cell ∧ ((cellsFrom (s.heap.objs.size + 1) (defScope st).names []).lookup y.1).isSome = true) := by
    rintro ⟨n, v⟩ hin
    exact (S.par n (List.of_mem_zip hin).1).elim .inl fun z => .inr ⟨z, PySem.W.cellsFrom_some _ _ _ (.inl z)⟩
  refine codeAny_call_function hr.depth (KX _ _ at_) rfl S.co S.gen rfl (PySem.W.codeRec_of KX cin) (hb _ _ _ _ (wpAny_newFunctionEnv_cells S.kind names fun env he s1 x => ?_))
  subst he
  refine ⟨lim.keeps x.toInCall.keep, codeAny_func ?_⟩
  obtain ⟨t, ht, hq⟩ := body cv A out s H vs Q E hg (hr.deeper _) q
  have I := inv_start (CX := L2.CX P w) (E := E) S hr.hd e0 size r x
  refine wpAny_mono (ht.run [] s1 (start N vs) H _ I hq) ?_ fun _ _ z => z
  intro fl s' z
  have fin : ∀ {τ : L2.St} {H' : Hp} {v : V} {u : Value}, Inv (cxOf (L2.CX P w) P w K mg base N qual (defScope st) f cv A out s H E) [] τ H' s' → RelV v u → Q v H' → CE out P w H s Q u s' := fun J rv qv => ⟨_, _, J.os, J.bare, J.base, J.hok, rv, qv⟩
  cases fl with
  | ret u => obtain ⟨v, τ, H', J, rv, qv⟩ := z; exact fin J rv qv
  | next => obtain ⟨τ, H', J, qv⟩ := z; exact fin (v := V.non) (u := Value.none) J rfl qv
  | brk => obtain ⟨_, _, _, qv⟩ := z; exact qv.elim
  | cont => obtain ⟨_, _, _, qv⟩ := z; exact qv.elim
end
section
variable {X : Cx} {CX : CXT} {k : Nat} {f : Addr} {fd : FuncData} {ps : List Str} {sp : Sp} {ds : List Value} {dvs : List V} {E : XK} {x : Str} {p pos : Pos} {e : Expr} {es : List Expr} {t : TA}
theorem run_G {pins : List (Addr × Obj)} {σ : L2.St} {H : Hp} {s : Shared} {Q : VK} {us : List Value} {vs : List V} (F : FnG X.prog X.w X.K X.mg X.base CX k f fd ps sp) (hgd : X.A.guards = some []) (hr : Room k X.A) (hb : Binds X.K fd ps ds) (hd : Vals dvs ds) (hx : Passes CX X E)
    (I : Inv X pins σ H s) (r : Vals vs us) (h : sp (vs ++ dvs) H Q E) : wpAny (model X.prog X.w) X.A (call (.ref f) us) (EP X pins σ Q) X.xe s := by
  have both : Vals (vs ++ dvs) (us ++ ds) := r.append hd
  have many : (us ++ ds).length = ps.length := both.length ▸ F.many _ _ _ _ h
  refine wpAny_call (codeAny_mono (F.go X.A X.stack s H ⟨us, []⟩ (us ++ ds) (vs ++ dvs) Q E hgd hr I.env0 (hb s us I.kIn many) both h) ?_)
  intro fl s' z
  cases fl with
  | error er => exact hx pins σ H s er s' I z
  | ok fl =>
    cases fl with
    | ret u => exact I.after z
    | next => exact z.elim
    | brk => exact z.elim
    | cont => exact z.elim
theorem pe_callG (F : FnG X.prog X.w X.K X.mg X.base CX k f fd ps sp) (hgd : X.A.guards = some []) (hr : Room k X.A) (hg : Gl X x) (hm : X.mg x = some (.ref f)) (hk : PySem.W.keepIn X.K (.ref f) = true) (hb : Binds X.K fd ps ds) (hd : Vals dvs ds) (hx : Passes CX X E) (ha : PA X (e :: es) t)
    (hdb : (x == ("__debug__" : Str)) = false := by decide) (he : starEach (e :: es) X.env = (false, eval e X.env) :: starEach es X.env := by rfl) (hpl : (backTo pos (starEach es X.env)).any (·.1) = false := by rfl) :
    PE X (.Call (.Name x p) (e :: es) [] pos) (tCall sp dvs E t) :=
  ⟨fun pins s σ H Q I h => wpAny_Call_Name_kw (ld_glob I hg hm (PySem.W.callWith_K (h₀ := X.base) I.ok.mod.kin hk (thn (ha.run pos pins s σ H _ I h) fun us s1 ⟨vs, H1, I1, r, q⟩ => ⟨I1.kIn, run_G F hgd hr hb hd hx I1 r q⟩) he hpl) hdb)⟩
theorem pe_call0G (F : FnG X.prog X.w X.K X.mg X.base CX k f fd ps sp) (hgd : X.A.guards = some []) (hr : Room k X.A) (hg : Gl X x) (hm : X.mg x = some (.ref f)) (hk : PySem.W.keepIn X.K (.ref f) = true) (hb : Binds X.K fd ps ds) (hd : Vals dvs ds) (hx : Passes CX X E)
    (hdb : (x == ("__debug__" : Str)) = false := by decide) : PE X (.Call (.Name x p) [] [] pos) (tCall sp dvs E tNil) :=
  ⟨fun pins s σ H Q I h => wpAny_Call_Name_kw (ld_glob I hg hm (PySem.W.callWith_K0 I.kIn hk (run_G (us := []) F hgd hr hb hd hx I .nil h)) hdb)⟩
/-! repr of what stands in the heap -/
structure Shw (d : PyData) : Prop where
  sh : d.showable = true
  dp : d.depth ≤ 60
  nd : d.hasDict = false
  ln : d.shown.length ≤ sizeLine
def rReprC {K : PySem.W.Frag} {α : Type} (C : Ct K α) : List V → Hp → VK → Prop := fun vs H Q => ∃ (a : Addr) (x : α), vs = [.ref a] ∧ C.P H (.ref a) x ∧ Shw (C.d x) ∧ Q (.str (C.d x).shown) H
theorem un_kept {fs : List Addr} {H : Hp} {h h' : Heap} (k : ∀ b o, h.get? b = some o → h'.get? b = some o) : Un fs [] H H h h' :=
  ⟨fun b o e _ _ _ => k b o e, fun b o e _ _ _ => ⟨o.slots, k b o e⟩, fun _ _ _ n _ => n, fun b o e _ => ⟨o, k b o e⟩, fun _ _ e => e, fun _ _ _ e => e, fun b ps e => ⟨#[], by simpa using e⟩⟩
theorem call_reprC {K : PySem.W.Frag} {α : Type} (C : Ct K α) (hgd : X.A.guards = some []) (hu : X.A.units + 64 < cLine) (hK : X.K = K := by rfl) : CallR X (.builtin "repr") (rReprC C) := by
  subst hK
  intro pins s σ H xs us Q I r h
  obtain ⟨a, x, rfl, hp, sh, q⟩ := h
  obtain ⟨u, rfl, rx⟩ := vals1 r
  obtain rfl : u = .ref a := rx
  obtain ⟨as, rd⟩ := Dp.reads I _ _ _ (C.dp hp) rfl
  exact PySem.repr_of_reads' rd sh.sh (PyData.noDict_hsm sh.nd) hgd (by have := sh.dp; omega) (fun b o h => h) (fun h' u tk hk => ⟨.str _, H, I.un (un_kept hk) (I.hok.kept hk), ⟨_, rfl⟩, q⟩) sh.ln
/-! a list that is never changed again: seen as locked -/
theorem un_frz {fs : List Addr} {H : Hp} {h : Heap} {p : Addr} {xs : List V} {o : Obj} (e : H p = some (.lst xs)) : Un fs [] H (upd H p (.frz o (.lst xs))) h h :=
  ⟨fun b o e _ _ _ => e, fun b o e _ _ _ => ⟨o.slots, e⟩, fun b _ _ n _ => by rw [upd_ne fun z => by rw [z, e] at n; cases n]; exact n, fun b o e _ => ⟨o, e⟩, fun b ys z => by rw [upd_ne fun y => by rw [y, e] at z; cases z]; exact z,
   fun b o u z => by rw [upd_ne fun y => by rw [y, e] at z; cases z]; exact z, fun b ps z => ⟨#[], by rw [upd_ne fun y => by rw [y, e] at z; cases z]; simpa using z⟩⟩
theorem Inv.freeze {pins : List (Addr × Obj)} {σ : L2.St} {H : Hp} {s : Shared} {p : Addr} {xs : List V} (I : Inv X pins σ H s) (e : H p = some (.lst xs)) : ∃ o, Inv X pins σ (upd H p (.frz o (.lst xs))) s := by
  obtain ⟨z, its, n, r, e2⟩ := I.hok p _ e
  refine ⟨_, I.un (h' := s.heap) (t' := s.toks) (un_frz (o := { cls := .type "list", data := .seq its.toArray n }) e) fun b u q => ?_⟩
  by_cases hb : b = p
  · subst hb
    rw [upd_same] at q
    cases q
    exact ⟨e2, z, its, n, r, e2⟩
  · rw [upd_ne hb] at q
    refine (I.hok b u q).stay (fun _ _ _ k => k) (fun c k => ?_) fun c ys k => ?_
    · rw [upd_ne fun y => by rw [y, e] at k; cases k]; exact k
    · rw [upd_ne fun y => by rw [y, e] at k; cases k]; exact k
def tFrz (t : TE) : TE := fun σ H Q => t σ H fun v H1 => ∃ p xs, v = .ref p ∧ H1 p = some (.lst xs) ∧ ∀ o, Q v (upd H1 p (.frz o (.lst xs)))
theorem pe_frz {t : TE} {e : Expr} (h : PE X e t) : PE X e (tFrz t) := ⟨fun pins s σ H Q I q => thn (h.run pins s σ H _ I q) fun u s' ⟨v, H', I', r, p, xs, e1, e2, q'⟩ => by
  obtain ⟨o, J⟩ := Inv.freeze I' e2
  exact ⟨v, _, J, r, q' o⟩⟩
end
section
variable {K : PySem.W.Frag} {α β : Type} {L R R' : List HA} {σ : L2.St} {Q : VK} {v : V} {a p l : Addr} {us : List V} {H : Hp} {E : El K α} {te : TE}
/-- a list that is never changed -/
def kFz (A : El K α) : El K (List α) := ⟨fun H v x => ∃ a o us, v = .ref a ∧ H a = some (.frz o (.lst us)) ∧ All2 (A.P H) us x, fun ⟨a, o, us, e, h, z⟩ k => ⟨a, o, us, e, k a _ h (.inr rfl), z.imp fun _ _ y => A.st y k⟩, fun x => .list (x.map A.d), fun ⟨a, o, us, e, h, z⟩ => by
  subst e
  exact .lst (.inl (.inr ⟨o, h⟩)) (dpAll_of (z.imp fun _ _ y => A.dp y))⟩
instance [DecidableEq α] {A : El K α} [D : ElD A] : ElD (kFz A) := ⟨D.n + 1, fun {H v x} h => by show (PyData.list (x.map A.d)).canLay0 = true; rw [PyData.canLay0]; obtain ⟨t, _, us, _, _, h⟩ := h; exact D.layAll h, fun x => by
  have := D.depAll x
  show (PyData.list (x.map A.d)).depth ≤ _
  simp only [PyData.depth]; omega, fun x y => by
  show PyData.eqv (.list (x.map A.d)) (.list (y.map A.d)) = _
  rw [PyData.eqv]; exact D.eqvAll x y⟩
instance {A : El K α} : ElN (kFz A) := ⟨fun x => by show PyData.eqv .none (.list (x.map A.d)) = false ∧ PyData.eqv (.list (x.map A.d)) .none = false; constructor <;> simp [PyData.eqv], fun H v x h z => by obtain ⟨t, _, us, e, _⟩ := h; rw [e] at z; cases z⟩
theorem Holds.frz {xs : List α} (h : Holds (ls E l xs :: R) H) : ∃ vs, H l = some (.lst vs) ∧ ∀ o, Holds (Toy.vl (kFz E) (.ref l) xs :: R) (L2.upd H l (.frz o (.lst vs))) := by
  obtain ⟨vs, h1, h2⟩ := h.ls_op
  refine ⟨vs, h1.pt_get, fun o => ?_⟩
  obtain ⟨S, S1, S2, ⟨e, _, s⟩, h4, hd, hs⟩ := h1
  have kp : ∀ b ob, H b = some ob → b ≠ l → L2.upd H l (.frz o (.lst vs)) b = some ob := fun b ob e n => by rw [upd_ne n]; exact e
  have z : Holds R (L2.upd H l (.frz o (.lst vs))) := ⟨S2, h4.st fun b ob e2 q => kp b ob e2 (by
    rintro rfl
    rcases q with q | q
    · exact hd b ((s b).mpr rfl) q
    · rw [e] at e2; cases e2; cases q)⟩
  refine Holds.vl z ⟨l, o, vs, rfl, upd_same, h2.imp fun v x y => E.st y fun b ob e2 q => kp b ob e2 (by
    rintro rfl
    rcases q with q | q
    · exact q.elim
    · rw [e] at e2; cases e2; cases q)⟩
def kFrz (Q : VK) (v : V) (H1 : Hp) : Prop := ∃ p xs, v = .ref p ∧ H1 p = some (.lst xs) ∧ ∀ o, Q v (upd H1 p (.frz o (.lst xs)))
theorem e_frz0 (q : Ent L fun H => te σ H (kFrz Q)) : Ent L fun H => tFrz te σ H Q := q
theorem c_frz {xs : List α} (E : El K α) (t : Take (ls E l xs) L R) (q : Ent (vl (kFz E) (.ref l) xs :: R) (Q (.ref l))) : Ent L fun H => kFrz Q (.ref l) H := fun H h => by
  obtain ⟨vs, h1, h2⟩ := Holds.frz (t.to h)
  exact ⟨l, vs, rfl, h1, fun o => q _ (h2 o)⟩
theorem e_repr {C : Ct K α} {x : α} (h : IsC C L (.ref a) x) (sh : Shw (C.d x)) (q : Ent L (Q (.str (C.d x).shown))) : Ent L fun H => rReprC C [.ref a] H Q := fun H z => ⟨a, x, rfl, h H z, sh, q H z⟩
theorem c_repr {C : Ct K α} {x : α} {k : Prop} (hm : grd (Shw (C.d x)) k) (h : IsC C L (.ref a) x) (q : k → Ent L (Q (.str (C.d x).shown))) : Ent L fun H => rReprC C [.ref a] H Q := e_repr h hm.1 (q hm.2)
end
/-! the call of the law -/
section
variable {P : Program} {w : World} {K : PySem.W.Frag} {mg mb : Str → Option Value} {k : Nat} {fa a : Addr} {fd : FuncData} {x : Str} {sp : Sp} {s : Shared} {us : List Value} {ns : List Int}
theorem law_callG {CX : CXT} (KX : K.In s.heap) (hns : s.heap.Ns mainGlobals mg) (hb : s.heap.Ns builtinsNs mb) (hbb : ∀ x : Str, x ≠ "__name__" → mb x = bootBuiltins x) (hlim : s.heap.NoLimit) (hg : s.gens = #[])
    (ha : s.heap.get? a = some { cls := .type "list", data := .seq us.toArray }) (hi : IntsAre us ns) (hl : ns.length ≤ sizeLine) (hr : Room k callerA)
    (F : ∀ base : Heap, K.In base → base.Ns mainGlobals mg → FnG P w K mg base CX k fa fd [x] sp) (hbind : ∀ (s : Shared) (u : Value), BindsTo s fd ⟨[u], []⟩ [(x, u)])
    (hsp : ∀ H : Hp, Only H → SqL K H a (ns.map V.int) → sp [.ref a] H (fun v _ => v = .bl true) fun _ _ _ => False) (hCX : ∀ H e s', CX [] H s (fun _ _ _ => False) e s' → False) :
    codeAny (model P w) callerA (.call (.ref fa) ⟨[.ref a], []⟩) (fun r s' => r = .ok (.ret (.bool true)) ∧ OldK s.heap s'.heap ∧ s'.os = s.os ∧ AllBare s'.gens) s := by
  have rv := vals_ints hi
  have many := hi.length
  have main : ∀ H : Hp, Only H → SqL K H a (ns.map V.int) → HOk P w H s.heap → (∀ b, H b ≠ none → b = a ∧ K.lookup a = none) → codeAny (model P w) callerA (.call (.ref fa) ⟨[.ref a], []⟩) (fun r s' => r = .ok (.ret (.bool true)) ∧ OldK s.heap s'.heap ∧ s'.os = s.os ∧ AllBare s'.gens) s := by
    intro H only sq ok at_
    have under : ∀ {b : Addr} {o : Obj}, s.heap.get? b = some o → H b = none → (hidT s.heap H).get? b = some o := fun e n => hidT_get e n
    have space : ∀ {b : Addr} {m : Str → Option Value}, s.heap.Ns b m → (hidT s.heap H).Ns b m := by
      rintro b m ⟨o, es, ep, e, d, r⟩
      refine ⟨o, es, ep, under e (Classical.byContradiction fun q => ?_), d, r⟩
      obtain ⟨rfl, _⟩ := at_ b q
      rw [ha] at e
      cases e
      cases (show Data.seq us.toArray _ = Data.dict es ep from d)
    have inn : K.In (hidT s.heap H) := fun b o e => under (KX b o e) (Classical.byContradiction fun q => by
      obtain ⟨rfl, n⟩ := at_ b q
      rw [n] at e
      cases e)
    have limit : (hidT s.heap H).NoLimit := by
      obtain ⟨m, n1, n2⟩ := hlim
      exact ⟨m, space n1, n2⟩
    have e0 : Env0 P w K mg (hidT s.heap H) callerA [] s H := {
      frames := rfl, mod := ⟨inn, space hns, ⟨mb, space hb, hbb⟩, limit⟩, bs := fun b o e => of_hidT e, bsz := Nat.le_of_eq (hidT_size _ _), funs := trivial,
      frf := fun b z => (List.not_mem_nil (show b ∈ ([] : List Addr) from z)).elim, hok := ok, bare := .of_eq hg }
    have run := (F _ inn (space hns)).go callerA [] s H ⟨[.ref a], []⟩ [.ref a] [.ref a] _ _ rfl hr e0 (hbind s (.ref a)) (.cons rfl .nil) (hsp H only sq)
    refine codeAny_mono run fun r s' z => ?_
    cases r with
    | error e => exact (hCX H e s' z).elim
    | ok fl =>
      cases fl with
      | next => exact z.elim
      | brk => exact z.elim
      | cont => exact z.elim
      | ret u =>
        obtain ⟨v, H', os, bare, un, ok', ru, qv⟩ := z
        have qv : v = .bl true := qv
        subst qv
        obtain rfl : u = Value.bool true := ru
        refine ⟨rfl, OldK.of_keep fun b o e => ?_, os, bare⟩
        rcases only b with n | ⟨ob, xs, n⟩
        · exact un.keep b o e n (fun z => (List.not_mem_nil (show b ∈ ([] : List Addr) from z)).elim) (by simp)
        · obtain ⟨e1, _⟩ := ok b _ n
          obtain ⟨e2, _⟩ := ok' b _ (un.frzs b ob _ n)
          rw [e] at e1
          cases e1
          exact e2
  have none_ok : ∀ {b : Addr} {u : HO}, (none : Option HO) = some u → False := fun z => by cases z
  cases hk : K.lookup a with
  | some o =>
    have e := KX a o hk
    rw [ha] at e
    cases e
    exact main (fun _ => none) (fun _ => .inl rfl) (.inr ⟨_, us.toArray, _, hk, rfl, rfl, rfl, by rw [List.size_toArray, many]; exact hl, by simpa using rv⟩) (fun b u z => (none_ok (b := b) z).elim) fun b z => (z rfl).elim
  | none =>
    let ob : Obj := { cls := .type "list", data := .seq us.toArray }
    have pos : ∀ b, b = a → (if b = a then some (HO.frz ob (.lst (ns.map V.int))) else none) = some (HO.frz ob (.lst (ns.map V.int))) := fun b e => if_pos e
    refine main (fun b => if b = a then some (.frz ob (.lst (ns.map V.int))) else none) (fun b => ?_) (.inl (.inr ⟨ob, pos a rfl⟩)) (fun b u z => ?_) fun b z => ⟨Classical.byContradiction fun n => z (if_neg n), hk⟩
    · rcases Classical.em (b = a) with e | e
      · exact .inr ⟨_, _, pos b e⟩
      · exact .inl (if_neg e)
    · rcases Classical.em (b = a) with e | e
      · cases (pos b e).symm.trans z
        subst e
        exact ⟨ha, by rw [List.length_map]; exact hl, us, _, rv, ha⟩
      · exact (none_ok (b := b) ((if_neg e).symm.trans z)).elim
theorem walk_ofG {l : PySem.W.OpenLaw} {n k : Nat} {q : Program} {loose : List Str} {XP : (Str → Option Value) → Heap → Prop} {YP : World → Heap → Prop} {d : DefRec} {K : Params → PySem.W.Frag} {CX : World → CXT} {sp : World → Sp} {x : Str}
    (hn : l.most = some n) (hn2 : n ≤ sizeLine) (hdf : d.params.defaults = []) (hr : Room k callerA) (hY : ∀ (w : World) (h : Heap), YP w h → (K w.params).In h)
    (F : ∀ (w : World) (mg : Str → Option Value) (fa : Addr) (h : Heap), (K w.params).In h → h.Ns mainGlobals mg → mg d.name = some (.ref fa) →
      ∃ fd : FuncData, (∀ (s : Shared) (u : Value), BindsTo s fd ⟨[u], []⟩ [(x, u)]) ∧ ∀ base : Heap, (K w.params).In base → base.Ns mainGlobals mg → FnG l.prog w (K w.params) mg base (CX w) k fa fd [x] (sp w))
    (hsp : ∀ (w : World) (H : Hp) (a : Addr) (ns : List Int), ns.length ≤ n → Only H → SqL (K w.params) H a (ns.map V.int) → sp w [.ref a] H (fun v _ => v = .bl true) fun _ _ _ => False)
    (hCX : ∀ (w : World) (H : Hp) (s : Shared) (e : Value) (s' : Shared), CX w [] H s (fun _ _ _ => False) e s' → False) : PySem.W.WalkO q loose XP YP l.row.toRowW d [] (fun f vs => PySem.call f vs) := by
  refine Att.attach_call hn hdf fun w t s mg mb fa o pm cd doc a us ns G Y ho hd hcd hmg hobj hints hlen hg => ?_
  obtain ⟨fd, hb, hF⟩ := F w mg fa _ (hY w _ Y) G.T.g hmg
  exact law_callG (hY w _ Y) G.T.g G.T.b G.T.builtins G.T.nolimit hg hobj hints (Nat.le_trans hlen hn2) hr hF hb (fun H hO hS => hsp w H a ns hlen hO hS) fun H e s' => hCX w H s e s'
end
/-! ### a list or a tuple, as the callers hold it -/
theorem ty_sqL {K : PySem.W.Frag} {H : Hp} {a : Addr} {vs : List V} (h : SqL K H a vs) : TyX K H (.ref a) (.type "list") := by
  rcases h with (h | ⟨o, h⟩) | ⟨o, _, _, h, c, _⟩
  · exact .base (.lst h)
  · exact .base (.frz h)
  · exact .kList h c
theorem ty_sqT {K : PySem.W.Frag} {H : Hp} {a : Addr} {vs : List V} (h : SqT K H a vs) : TyX K H (.ref a) (.type "tuple") := by
  rcases h with (h | ⟨o, h⟩) | ⟨o, _, _, h, c, _⟩
  · exact .base (.tup h)
  · exact .fTuple h
  · exact .kTuple h c
section
variable {K : PySem.W.Frag} {α β : Type} {L R R' F F' : List HA} {σ : L2.St} {Q : VK} {v : V} {a p l : Addr} {us : List V} {H : Hp} {E : El K α} {te ta : TE} {xs : List α}
inductive SqAt (E : El K α) (F : List HA) : V → List α → Prop
  | lst {a : Addr} {xs : List α} : (∀ H, Holds F H → ∃ vs, SqL K H a vs ∧ All2 (E.P H) vs xs) → SqAt E F (.ref a) xs
  | tup {v : V} {xs : List α} : (∀ H, Holds F H → (kT E).P H v xs) → SqAt E F v xs
theorem SqAt.sub (s : Sub L F) (h : SqAt E F v xs) : SqAt E L v xs := by
  cases h with
  | lst h => exact .lst fun H z => h H (s.to z)
  | tup h => exact .tup fun H z => h H (s.to z)
theorem sqAt_ls (t : Take (ls E l xs) L R) : SqAt E L (.ref l) xs := .lst fun H h => by
  obtain ⟨vs, h1, h2⟩ := t.ls h
  exact ⟨vs, SqL.of h1, h2⟩
theorem sqAt_kT (t : Take (vl (kT E) v xs) L R) : SqAt E L v xs := .tup fun H h => t.vl h
theorem c_lenSq (h : SqAt E L v xs) (q : Ent L (Q (.int xs.length))) : Ent L fun H => rLenK K [v] H Q := fun H z => by
  cases h with
  | lst h => obtain ⟨vs, h1, h2⟩ := h H z; exact ⟨_, vs, rfl, .inl h1, by rw [h2.len]; exact q H z⟩
  | tup h => obtain ⟨a, vs, rfl, h1, h2⟩ := h H z; exact ⟨_, vs, rfl, .inr h1, by rw [h2.len]; exact q H z⟩
theorem c_listSq (h : SqAt E L v xs) (q : ∀ p, Ent (ls E p xs :: L) (Q (.ref p))) : Ent L fun H => rListK K [v] H Q := fun H z => by
  cases h with
  | lst h => obtain ⟨vs, h1, h2⟩ := h H z; exact ⟨_, vs, rfl, .inl h1, fun p np => q p _ (z.ls_new np h2)⟩
  | tup h => obtain ⟨a, vs, rfl, h1, h2⟩ := h H z; exact ⟨_, vs, rfl, .inr h1, fun p np => q p _ (z.ls_new np h2)⟩
def iSeq (K : PySem.W.Frag) (te : TE) : TI := fun σ H R => iList K te σ H R ∨ iTup K te σ H R
theorem pi_seq {X : Cx} {tg l : Expr} {tl : TE} (hl : PE X l tl) (hK : X.K = K := by rfl) : PI X tg l (iSeq K tl) := by
  subst hK
  exact ⟨fun pins s σ H R I h => h.elim ((pi_list hl).run pins s σ H R I) ((pi_tup hl).run pins s σ H R I)⟩
/-- what is asked of the walked thing, once its value is known -/
def kLcS (K : PySem.W.Frag) (v : V) (g : TG) (tt : TT) (te : TE) (vs : List Nat) : TE := tLc (iSeq K (tC v)) g tt te vs
theorem e_lcSv {i : Nat} {g : TG} {tt : TT} {vs : List Nat} (h : σ[i]? = some (some v)) (q : Ent L fun H => kLcS K v g tt te vs σ H Q) : Ent L fun H => tLc (iSeq K (tVar i)) g tt te vs σ H Q := fun H z => by
  rcases q H z with h1 | h1
  · exact .inl ⟨v, h, h1⟩
  · exact .inr ⟨v, h, h1⟩
theorem walk_sq (he : ∀ H, Holds L H → ∃ vs, SqL K H a vs ∧ All2 (E.P H) vs xs) : Walk (Itl K a) xs.length (fun H => ∃ vs, SqL K H a vs ∧ All2 (E.P H) vs xs) (fun i H x H' => H' = H ∧ ∃ e, xs[i]? = some e ∧ E.P H x e) :=
  ⟨fun i H hi ⟨vs, h1, h2⟩ => by
    obtain ⟨v, hv, _⟩ := h2.getR (List.getElem?_eq_getElem hi)
    exact ⟨vs, v, h1, hv⟩, fun H ⟨vs, h1, h2⟩ => ⟨vs, h1, Nat.le_of_eq h2.len⟩, fun i H x H' hi ⟨vs, h1, h2⟩ ⟨e, y⟩ => ⟨e, h2.get (y vs h1)⟩⟩
theorem walk_sqT : Walk (Itt K a) xs.length (fun H => ∃ vs, SqT K H a vs ∧ All2 (E.P H) vs xs) (fun i H x H' => H' = H ∧ ∃ e, xs[i]? = some e ∧ E.P H x e) :=
  ⟨fun i H hi ⟨vs, h1, h2⟩ => by
    obtain ⟨v, hv, _⟩ := h2.getR (List.getElem?_eq_getElem hi)
    exact ⟨vs, v, h1, hv⟩, fun H ⟨vs, h1, h2⟩ => ⟨vs, h1, Nat.le_of_eq h2.len⟩, fun i H x H' hi ⟨vs, h1, h2⟩ ⟨e, y⟩ => ⟨e, h2.get (y vs h1)⟩⟩
theorem lcSq_core {J : It} {G : Hp → Prop} {bd : α → (Option β → Prop) → Prop} {k : List β → Prop} {g : TG} {tt : TT} {vs : List Nat} (E' : El K β) (w : Walk J xs.length G (fun i H x H' => H' = H ∧ ∃ e, xs[i]? = some e ∧ E.P H x e)) (hG : ∀ H, Holds L H → G H) (hm : grd (xs.length ≤ 100000) (lcL xs [] bd k))
    (step : ∀ x (nxt : Option β → Prop), bd x nxt → ∀ v D ys (r : VK) (s : Hp → Prop), (∀ v' y, nxt (some y) → Ent (vl E' v' y :: ls E' D ys :: L) (r v')) → (nxt none → Ent (ls E' D ys :: L) s) → Ent (vl E v x :: ls E' D ys :: L) fun H => g v (wipe σ vs) H fun σ2 H2 => wipe σ2 vs = wipe σ vs ∧ tt σ2 H2 fun b H3 => if b = true then te σ2 H3 r else s H3)
    (q : ∀ ys, k ys → ∀ D, Ent (ls E' D ys :: L) (Q (.ref D))) (h : Holds L H) : ∀ D, H D = none → ∃ W : Nat → Nat → Hp → Prop, (∃ m, W 0 m (upd H D (.lst []))) ∧ ∀ i m H, W i m H → (J.stop i H ∧ Q (.ref D) H) ∨ (J.go i H ∧ ∃ Nx : Hp → Prop, (∀ H', Nx H' → ∃ m', m' < m ∧ W (i + 1) m' H') ∧ ∀ x H', J.yld i H x H' → g x (wipe σ vs) H' fun σ2 H2 => wipe σ2 vs = wipe σ vs ∧ tt σ2 H2 fun b H3 =>
      if b = true then te σ2 H3 fun y H4 => ∃ acc, H4 D = some (.lst acc) ∧ acc.length < sizeLine ∧ Nx (upd H4 D (.lst (acc ++ [y]))) else Nx H3) := fun D nD => by
  obtain ⟨hz, hm⟩ := hm
  refine lc_it w (fun i H' => ∃ ys, lcL (xs.drop i) ys bd k ∧ i ≤ xs.length ∧ ys.length ≤ i ∧ Holds (ls E' D ys :: L) H') ⟨[], hm, Nat.zero_le _, Nat.le_refl _, h.ls_new nD .nil⟩ (fun i H' _ ⟨ys, _, _, _, p⟩ => hG H' (Sub.to (Sub.drop Sub.refl) p)) (fun i v H' H'' hi ⟨ys, hf, _, hy, p⟩ ⟨e, x, hx, hp⟩ => ?_) (fun H' ⟨ys, hf, _, _, p⟩ => q ys (by rw [List.drop_length] at hf; exact hf) D H' p)
  subst e
  have ed : xs.drop i = x :: xs.drop (i + 1) := by
    rw [List.drop_eq_getElem_cons hi]
    congr 1
    exact Option.some.inj ((List.getElem?_eq_getElem hi).symm.trans hx)
  rw [ed, lcL] at hf
  refine step x _ hf v D ys _ _ (fun v' y hy' H4 z => ?_) (fun hn H3 z => ?_) _ (p.vl hp)
  · obtain ⟨ac, z1, z2⟩ := Holds.ls_op (Sub.to (Sub.drop Sub.refl) z)
    have z3 : E'.P H4 v' y := Take.vl take_here z
    refine ⟨ac, z1.pt_get, ?_, ys ++ [y], hy', hi, by simp; omega, Holds.ls_upd (Sub.to (Sub.drop Sub.refl) z) (z2.app (.one z3))⟩
    rw [z2.len]
    exact Nat.lt_of_le_of_lt (by omega : ys.length ≤ 100000) (by decide : 100000 < sizeLine)
  · exact ⟨ys, by simpa using hn, hi, by omega, z⟩
theorem c_lcSq {bd : α → (Option β → Prop) → Prop} {k : List β → Prop} {g : TG} {tt : TT} {vs : List Nat} (E' : El K β) (hm : grd (xs.length ≤ 100000) (lcL xs [] bd k)) (t : SqAt E L v xs)
    (step : ∀ x (nxt : Option β → Prop), bd x nxt → ∀ v D ys (r : VK) (s : Hp → Prop), (∀ v' y, nxt (some y) → Ent (vl E' v' y :: ls E' D ys :: L) (r v')) → (nxt none → Ent (ls E' D ys :: L) s) → Ent (vl E v x :: ls E' D ys :: L) fun H => g v (wipe σ vs) H fun σ2 H2 => wipe σ2 vs = wipe σ vs ∧ tt σ2 H2 fun b H3 => if b = true then te σ2 H3 r else s H3)
    (q : ∀ ys, k ys → ∀ D, Ent (ls E' D ys :: L) (Q (.ref D))) : Ent L fun H => kLcS K v g tt te vs σ H Q := fun H h => by
  cases t with
  | lst t =>
    obtain ⟨ws, h1, _⟩ := t H h
    exact .inl ⟨_, rfl, ⟨ws, h1⟩, lcSq_core E' (walk_sq t) t hm step q h⟩
  | tup t =>
    obtain ⟨a, ws, rfl, h1, _⟩ := t H h
    refine .inr ⟨_, rfl, ⟨ws, h1⟩, lcSq_core E' walk_sqT (fun H h => ?_) hm step q h⟩
    obtain ⟨b, us, e, z1, z2⟩ := t H h
    cases e
    exact ⟨us, z1, z2⟩
theorem c_isList {X : XK} (h : SqAt E L v xs) (q : Ent L (Q (.bl true))) : Ent L fun H => spList K [v] H Q X := fun H z => by
  cases h with
  | lst h =>
    obtain ⟨vs, h1, _⟩ := h H z
    exact ⟨_, .type "list", true, rfl, ty_sqL h1, kitAny_cons (b := true) (kit_ty (by decide +kernel)) (fun z => by cases z) (fun _ => rfl), fun H' s => q H' (z.same s)⟩
  | tup h =>
    obtain ⟨a, vs, rfl, h1, _⟩ := h H z
    exact ⟨_, .type "tuple", true, rfl, ty_sqT h1, kitAny_cons (b := false) (kit_ty (by decide +kernel)) (fun _ => kitAny_cons (b := true) (kit_ty (by decide +kernel)) (fun z => by cases z) (fun _ => rfl)) (fun z => by cases z), fun H' s => q H' (z.same s)⟩
theorem c_all {bs : List Bool} (t : Take (ls (kB (K := K)) l bs) L R) (q : Ent L (Q (.bl (bs.all id)))) : Ent L fun H => rAll K [.ref l] H Q := fun H h => by
  obtain ⟨vs, h1, h2⟩ := t.ls h
  have e : vs = bs.map V.bl := by
    clear h1 q t
    induction h2 with
    | nil => rfl
    | cons h _ ih => rw [List.map_cons, ← ih]; exact congrArg (· :: _) h
  subst e
  exact ⟨l, bs, rfl, SqL.of h1, q H h⟩
end
/-! repr of plain values, texts compared -/
class ElR {K : PySem.W.Frag} {α : Type} (E : El K α) : Prop where
  r : ∀ H v x, E.P H v x → (E.d x).showable = true → (E.d x).shown.length ≤ sizeLine → okS v ∧ shV v = (E.d x).shown
section
variable {K : PySem.W.Frag} {α : Type} {L R : List HA} {Q : VK} {v : V}
instance : ElR (kI (K := K)) := ⟨fun H v x h s _ => by
  have h : v = .int x := h
  subst h
  exact ⟨by show x.natAbs.log2 < 1920; simpa [kI, PyData.showable] using s, by simp [kI, shV, PyData.shown]⟩⟩
instance : ElR (kB (K := K)) := ⟨fun H v x h s _ => by
  have h : v = .bl x := h
  subst h
  exact ⟨trivial, by simp [kB, shV, PyData.shown]⟩⟩
instance : ElR (kN (K := K)) := ⟨fun H v x h s _ => by
  have h : v = .non := h
  subst h
  exact ⟨trivial, by simp [kN, shV, PyData.shown]⟩⟩
instance {E : El K α} [r : ElR E] : ElR (kO E) := ⟨fun H v x h s l => by
  cases x with
  | none =>
    have h : v = .non := h
    subst h
    exact ⟨trivial, by simp [kO, optD, shV, PyData.shown]⟩
  | some y => exact r.r H v y h s l⟩
theorem c_reprS {E : El K α} {x : α} {D : PyData} {k : Prop} (hm : grd (Shw D) k) (h : Is E L v x) (e : E.d x = D) (n : ElR E) (q : k → Ent L (Q (.str D.shown))) : Ent L fun H => rReprS [v] H Q := fun H z => by
  subst e
  obtain ⟨h1, h2⟩ := n.r H v x (h H z) hm.1.sh hm.1.ln
  exact ⟨v, rfl, h1, by rw [h2]; exact q hm.2 H z⟩
theorem c_reprD {a : Addr} {C : Ct K α} {x : α} {D : PyData} {k : Prop} (hm : grd (Shw D) k) (h : IsC C L (.ref a) x) (e : C.d x = D) (q : k → Ent L (Q (.str D.shown))) : Ent L fun H => rReprC C [.ref a] H Q := by
  subst e
  exact c_repr hm h q
theorem dec_vstr (a b : Str) : decide (V.str a = V.str b) = decide (a = b) := by
  by_cases h : a = b
  · subst h; simp
  · rw [decide_eq_false h, decide_eq_false fun z => h (V.str.inj z)]
theorem e_eqSS {a b : Str} (q : Ent L fun H => Q (.bl (decide (a = b))) H) : Ent L fun H => rEq (.str a) (.str b) H Q := fun H k => ⟨rfl, by rw [dec_vstr]; exact q H k⟩
theorem e_neSS {a b : Str} (q : Ent L fun H => Q (.bl (!decide (a = b))) H) : Ent L fun H => rNe (.str a) (.str b) H Q := fun H k => ⟨rfl, by rw [dec_vstr]; exact q H k⟩
theorem dec_vbl (a b : Bool) : decide (V.bl a = V.bl b) = decide (a = b) := by cases a <;> cases b <;> simp
theorem e_eqBB {a b : Bool} (q : Ent L fun H => Q (.bl (decide (a = b))) H) : Ent L fun H => rEq (.bl a) (.bl b) H Q := fun H k => ⟨rfl, by rw [dec_vbl]; exact q H k⟩
theorem e_neBB {a b : Bool} (q : Ent L fun H => Q (.bl (!decide (a = b))) H) : Ent L fun H => rNe (.bl a) (.bl b) H Q := fun H k => ⟨rfl, by rw [dec_vbl]; exact q H k⟩
theorem gdeep {A : Around} {env : Env} (h : A.guards = some []) : (A.deeper env).guards = some [] := by first | exact h | simpa [Around.deeper] using h
theorem e_shrC {C : Int → Int → Prop} {g : Int → Int → V} {i j : Int} (h : C i j) (q : Ent L fun H => Q (g i j) H) : Ent L fun H => rI C g (.int i) (.int j) H Q := e_I h q
end
/-! ## how long a repr may be -/
structure Szd (w n : Nat) (d : PyData) : Prop where
  sh : d.showable = true
  nd : d.hasDict = false
  lv : d.leavesShort 13 = true
  we : d.weight ≤ w
  dp : d.depth ≤ n
structure SzdA (w n : Nat) (ds : List PyData) : Prop where
  sh : PyData.showableAll ds = true
  nd : PyData.hasDictAll ds = false
  lv : PyData.leavesShortAll 13 ds = true
  we : PyData.weightAll ds ≤ w
  dp : PyData.depthAll ds ≤ n
theorem Szd.mono {w n w' n' : Nat} {d : PyData} (h : Szd w n d) (hw : w ≤ w' := by omega) (hn : n ≤ n' := by omega) : Szd w' n' d := ⟨h.sh, h.nd, h.lv, Nat.le_trans h.we hw, Nat.le_trans h.dp hn⟩
theorem szdA_of {w n : Nat} : ∀ ds : List PyData, (∀ d ∈ ds, Szd w n d) → SzdA ((w + 1) * ds.length) n ds
  | [], _ => ⟨rfl, rfl, rfl, Nat.zero_le _, Nat.zero_le _⟩
  | d :: ds, h => by
    have a := h d List.mem_cons_self
    have b := szdA_of ds fun x hx => h x (List.mem_cons_of_mem _ hx)
    refine ⟨by simp [PyData.showableAll, a.sh, b.sh], by simp [PyData.hasDictAll, a.nd, b.nd], by simp [PyData.leavesShortAll, a.lv, b.lv], ?_, ?_⟩
    · have h1 := a.we
      have h2 := b.we
      simp only [PyData.weightAll, List.length_cons, Nat.mul_add]
      omega
    · have h1 := a.dp
      have h2 := b.dp
      simp only [PyData.depthAll]
      omega
theorem szd_list {w n : Nat} {ds : List PyData} (h : ∀ d ∈ ds, Szd w n d) : Szd ((w + 1) * ds.length) (n + 1) (.list ds) := by
  have b := szdA_of ds h
  exact ⟨by rw [PyData.showable]; exact b.sh, by rw [PyData.hasDict]; exact b.nd, by rw [PyData.leavesShort]; exact b.lv, by rw [PyData.weight]; exact b.we, by rw [PyData.depth]; exact Nat.add_le_add_right b.dp 1⟩
theorem szd_tuple {w n : Nat} {ds : List PyData} (h : ∀ d ∈ ds, Szd w n d) : Szd ((w + 1) * ds.length) (n + 1) (.tuple ds) := by
  have b := szdA_of ds h
  exact ⟨by rw [PyData.showable]; exact b.sh, by rw [PyData.hasDict]; exact b.nd, by rw [PyData.leavesShort]; exact b.lv, by rw [PyData.weight]; exact b.we, by rw [PyData.depth]; exact Nat.add_le_add_right b.dp 1⟩
theorem szd_int {i : Int} (h : i.natAbs < 10 ^ 12) : Szd 41 0 (.int i) := by
  have l : i.natAbs.log2 < 40 := by
    by_cases z : i.natAbs = 0
    · rw [z]; decide
    · rw [Nat.log2_lt z]
      exact Nat.lt_of_lt_of_le h (by decide)
  refine ⟨by rw [PyData.showable]; exact decide_eq_true (by omega), rfl, by rw [PyData.leavesShort]; exact decide_eq_true (PyData.shown_int_le h), ?_, by simp [PyData.depth]⟩
  rw [PyData.weight]
  split <;> omega
theorem szd_bool {b : Bool} : Szd 0 0 (.bool b) := ⟨rfl, rfl, rfl, by simp [PyData.weight], by simp [PyData.depth]⟩
theorem szd_none : Szd 0 0 .none := ⟨rfl, rfl, rfl, by simp [PyData.weight], by simp [PyData.depth]⟩
theorem Szd.shw {w n : Nat} {d : PyData} (h : Szd w n d) (hw : w ≤ 1048576) (hn : n ≤ 60) : Shw d := ⟨h.sh, Nat.le_trans h.dp hn, h.nd, PyData.shown_fits (B := 13) (by decide) (by decide) h.lv (Nat.le_trans h.we (by simpa using hw))⟩
theorem shw_ints {ns : List Int} (h : ∀ n ∈ ns, n.natAbs < 10 ^ 12) (hl : ns.length ≤ 20000) : Shw (.list (ns.map fun z => (.int z))) := by
  refine (szd_list (w := 41) (n := 0) fun d hd => ?_).shw (by rw [List.length_map]; omega) (by omega)
  obtain ⟨n, hn, rfl⟩ := List.mem_map.mp hd
  exact szd_int (h n hn)
theorem shw_bools {bs : List Bool} (hl : bs.length ≤ 20000) : Shw (.list (bs.map fun z => (.bool z))) := by
  refine (szd_list (w := 0) (n := 0) fun d hd => ?_).shw (by rw [List.length_map]; omega) (by omega)
  obtain ⟨n, hn, rfl⟩ := List.mem_map.mp hd
  exact szd_bool
end Toy
namespace Toy
open PySem L2 PySem.Spec PyProof.Rows
/-! ## written dicts of the top, with text keys -/
def dlk {α : Type} (T : List (Str × α)) (x : Str) : Option α := (T.find? fun p => decide (p.1 = x)).map (·.2)
def KDc (K : PySem.W.Frag) (w : World) (a : Addr) {α : Type} (f : α → V) (T : List (Str × α)) : Prop :=
  ∀ x v, dlk T x = some v → ∃ es n u, KDict K w a es n ∧ PySem.W.nsIn K a x = some (some u) ∧ RelV (f v) u
theorem dlk_mem {α : Type} {T : List (Str × α)} {x : Str} {v : α} (h : dlk T x = some v) : (x, v) ∈ T := by
  obtain ⟨p, h1, h2⟩ := Option.map_eq_some_iff.mp h
  have := List.find?_some h1
  have e : p.1 = x := of_decide_eq_true this
  rw [← e, ← h2]
  exact List.mem_of_find?_eq_some h1
theorem kdc_of {K : PySem.W.Frag} {w : World} {a : Addr} {α : Type} {f : α → V} {T : List (Str × α)} (h : ∃ es n, KDict K w a es n) (hn : ∀ p ∈ T, ∃ u, PySem.W.nsIn K a p.1 = some (some u) ∧ RelV (f p.2) u) : KDc K w a f T := fun x v hx => by
  obtain ⟨es, n, d⟩ := h
  obtain ⟨u, e, r⟩ := hn _ (dlk_mem hx)
  exact ⟨es, n, u, d, e, r⟩
def rInD (K : PySem.W.Frag) (w : World) : R2 := fun x y H Q => ∃ z d es n u, x = .str z ∧ y = .ref d ∧ KDict K w d es n ∧ PySem.W.nsIn K d z = some (some u) ∧ Q (.bl true) H
def rNiD (K : PySem.W.Frag) (w : World) : R2 := fun x y H Q => ∃ z d es n u, x = .str z ∧ y = .ref d ∧ KDict K w d es n ∧ PySem.W.nsIn K d z = some (some u) ∧ Q (.bl false) H
section
variable {X : Cx} {K : PySem.W.Frag} {w : World}
theorem ixKD (hK : X.K = K := by rfl) (hw : X.w = w := by rfl) : IxR X (rIxD K w) := by subst hK hw; exact ix_kdict
theorem inKD (hK : X.K = K := by rfl) (hw : X.w = w := by rfl) : OpR X (compareOp .In) (rInD K w) := by
  subst hK hw
  intro pins s σ H x y v u Q I rx ry h
  obtain ⟨z, d, es, n, u0, e1, e2, D, e, q⟩ := h
  exact op_in_kd D pins s σ H x y v u Q I rx ry ⟨z, _, e1, e2, e, q⟩
theorem niKD (hK : X.K = K := by rfl) (hw : X.w = w := by rfl) : OpR X (compareOp .NotIn) (rNiD K w) := by
  subst hK hw
  intro pins s σ H x y v u Q I rx ry h
  obtain ⟨z, d, es, n, u0, e1, e2, D, e, q⟩ := h
  exact op_notIn_kd D pins s σ H x y v u Q I rx ry ⟨z, _, e1, e2, e, q⟩
end
section
variable {K : PySem.W.Frag} {w : World} {α : Type} {L R : List HA} {Q : VK} {f : α → V} {T : List (Str × α)} {a l : Addr} {x : Str}
theorem c_ixD {k : α → Prop} (hm : obx (dlk T x) k) (d : KDc K w a f T) (q : ∀ v, k v → Ent L (Q (f v))) : Ent L fun H => rIxD K w (.ref a) (.str x) H Q := fun H h => by
  obtain ⟨v, e, hk⟩ := hm
  obtain ⟨es, n, u, D, e2, r⟩ := d x v e
  exact ⟨a, x, f v, rfl, rfl, ⟨es, n, u, D.at_, D.lit, e2, r⟩, q v hk H h⟩
theorem c_inD {k : Prop} (hm : grd ((dlk T x).isSome = true) k) (d : KDc K w a f T) (q : k → Ent L (Q (.bl true))) : Ent L fun H => rInD K w (.str x) (.ref a) H Q := fun H h => by
  obtain ⟨v, e⟩ := Option.isSome_iff_exists.mp hm.1
  obtain ⟨es, n, u, D, e2, r⟩ := d x v e
  exact ⟨x, a, es, n, u, rfl, rfl, D, e2, q hm.2 H h⟩
theorem c_niD {k : Prop} (hm : grd ((dlk T x).isSome = true) k) (d : KDc K w a f T) (q : k → Ent L (Q (.bl false))) : Ent L fun H => rNiD K w (.str x) (.ref a) H Q := fun H h => by
  obtain ⟨v, e⟩ := Option.isSome_iff_exists.mp hm.1
  obtain ⟨es, n, u, D, e2, r⟩ := d x v e
  exact ⟨x, a, es, n, u, rfl, rfl, D, e2, q hm.2 H h⟩
/-! ## list.index of texts -/
def ixof {α : Type} [DecidableEq α] (xs : List α) (y : α) : Option Nat := xs.findIdx? fun z => decide (z = y)
theorem mtIndexK {X : Cx} (hK : X.K = K := by rfl) : MtR X "list.index" (rIndex K) := by subst hK; exact mt_index
theorem strs_of {xs : List Str} {vs : List V} {H : Hp} (h : All2 ((kSt (K := K)).P H) vs xs) : vs = xs.map V.str := by
  induction h with
  | nil => rfl
  | cons h _ ih =>
    obtain ⟨rfl, _⟩ := h
    rw [ih]; rfl
theorem c_indexS {xs : List Str} {k : Nat → Prop} (hm : obx (ixof xs x) k) (t : Take (ls (kSt (K := K)) l xs) L R) (q : ∀ j : Nat, k j → Ent L (Q (.int j))) : Ent L fun H => rIndex K (.ref l) [.str x] H Q := fun H h => by
  obtain ⟨j, e, hk⟩ := hm
  obtain ⟨vs, h1, h2⟩ := t.ls h
  obtain rfl := strs_of h2
  obtain ⟨hj, hp, hn⟩ := List.findIdx?_eq_some_iff_getElem.mp e
  refine ⟨l, xs.map V.str, .str x, j, .str x, rfl, rfl, SqL.of h1, rfl, ?_, ?_, ?_, ?_, q j hk H h⟩
  · simp [List.all_map, Function.comp_def, flatV]
  · rw [List.getElem?_map, List.getElem?_eq_getElem hj]
    simp only [decide_eq_true_eq] at hp
    rw [hp]; rfl
  · simp [eqV]
  · intro m z' hmj hz
    rw [List.getElem?_map, List.getElem?_eq_getElem (by omega)] at hz
    have := hn m hmj
    simp only [decide_eq_true_eq] at this
    obtain rfl := (Option.some.inj hz).symm
    simp [eqV, this]
theorem e_tyPt {us : List V} {φ : Hp → Prop} (t : Take (pt l (.lst us)) L R) (q : Ent L φ) : Ent L fun H => tyV K "list" (.ref l) H ∧ φ H := fun H k => ⟨.inl ⟨rfl, us, .inl (.inl (t.pt k))⟩, q H k⟩
theorem c_reprV {β : Type} {Es : Els K β} {v : V} {y : β} {D : PyData} {k : Prop} (hm : grd (Shw D) k) (t : Take (vl (kTup Es) v y) L R) (e : (kTup Es).d y = D) (q : k → Ent L (Q (.str D.shown))) : Ent L fun H => rReprC (ctE (kTup Es)) [v] H Q := fun H h => by
  subst e
  have p := t.vl h
  obtain ⟨a, us, rfl, _, _⟩ := id p
  exact ⟨a, y, rfl, p, hm.1, q hm.2 H h⟩
/-! ## isinstance -/
theorem ty_I {L : List HA} (n : Int) : ∀ H, Holds L H → TyX K H (.int n) (.type "int") := fun _ _ => .base (.int n)
theorem ty_B {L : List HA} (b : Bool) : ∀ H, Holds L H → TyX K H (.bl b) (.type "bool") := fun _ _ => .base (.bl b)
theorem ty_S {L : List HA} (x : Str) : ∀ H, Holds L H → TyX K H (.str x) (.type "str") := fun _ _ => .base (.str x)
theorem e_exb {b : Bool} {φ : Hp → Prop} (q : Ent L φ) : Ent L fun H => ∃ c, V.bl b = .bl c ∧ φ H := fun H h => ⟨b, rfl, q H h⟩
end
/-! ## frozen lists, tuples of any length -/
section
variable {K : PySem.W.Frag} {α β : Type} {L R R' : List HA} {Q : VK} {φ : Hp → Prop} {E : El K α} {a b l : Addr} {v : V} {us : List V} {xs ys : List α}
theorem sqAt_fz (t : Take (vl (kFz E) (.ref a) xs) L R) : SqAt E L (.ref a) xs := .lst fun H h => by
  obtain ⟨c, o, vs, e, h1, h2⟩ := t.vl h
  cases e
  exact ⟨vs, .inl (.inr ⟨o, h1⟩), h2⟩
theorem Ent.vFz {M : V → List HA} {ψ : V → Hp → Prop} (q : ∀ a, Ent (vl (kFz E) (.ref a) xs :: M (.ref a)) (ψ (.ref a))) (v : V) : Ent (vl (kFz E) v xs :: M v) (ψ v) := fun H h => by
  obtain ⟨e, _⟩ := h.hd_vl
  obtain ⟨c, o, vs, rfl, _⟩ := e
  exact q c H h
theorem Ent.vTr {M : V → List HA} {ψ : V → Hp → Prop} (q : ∀ a, Ent (vl (kT E) (.ref a) xs :: M (.ref a)) (ψ (.ref a))) (v : V) : Ent (vl (kT E) v xs :: M v) (ψ v) := fun H h => by
  obtain ⟨e, _⟩ := h.hd_vl
  obtain ⟨c, vs, rfl, _⟩ := e
  exact q c H h
theorem Ent.vI2 {M : V → List HA} {n : Int} {ψ : V → Hp → Prop} (q : Ent (M (.int n)) (ψ (.int n))) (v : V) : Ent (vl (K := K) kI v n :: M v) (ψ v) := fun H h => by
  obtain ⟨e, h'⟩ := h.hd_vl
  obtain rfl : v = .int n := e
  exact q H h'
theorem Ent.vB2 {M : V → List HA} {n : Bool} {ψ : V → Hp → Prop} (q : Ent (M (.bl n)) (ψ (.bl n))) (v : V) : Ent (vl (K := K) kB v n :: M v) (ψ v) := fun H h => by
  obtain ⟨e, h'⟩ := h.hd_vl
  obtain rfl : v = .bl n := e
  exact q H h'
theorem Ent.vS2 {M : V → List HA} {n : Str} {ψ : V → Hp → Prop} (q : Ent (vl (K := K) kSt (.str n) n :: M (.str n)) (ψ (.str n))) (v : V) : Ent (vl (K := K) kSt v n :: M v) (ψ v) := fun H h => by
  obtain ⟨e, _⟩ := h.hd_vl
  obtain rfl : v = .str n := e.1
  exact q H h
theorem Ent.elsCFz {B : Els K β} {x : List α × β} (q : ∀ c us', us = .ref c :: us' → Ent (vEls B us' x.2 :: vl (kFz E) (.ref c) x.1 :: L) φ) : Ent (vEls (kC (kFz E) B) us x :: L) φ := fun H h => by
  obtain ⟨⟨u, us', e, h1, h2⟩, h⟩ := h.hd_els
  obtain ⟨c, o, vs, rfl, h3⟩ := id h1
  exact q c us' e H ((h.vl h1).els h2)
theorem Ent.els1Fz {x : List α} (q : ∀ c, us = [.ref c] → Ent (vl (kFz E) (.ref c) x :: L) φ) : Ent (vEls (kC1 (kFz E)) us x :: L) φ := fun H h => by
  obtain ⟨⟨u, e, h1⟩, h⟩ := h.hd_els
  obtain ⟨c, o, vs, rfl, h3⟩ := id h1
  exact q c e H (h.vl h1)
theorem Ent.elsCT {B : Els K β} {x : List α × β} (q : ∀ c us', us = .ref c :: us' → Ent (vEls B us' x.2 :: vl (kT E) (.ref c) x.1 :: L) φ) : Ent (vEls (kC (kT E) B) us x :: L) φ := fun H h => by
  obtain ⟨⟨u, us', e, h1, h2⟩, h⟩ := h.hd_els
  obtain ⟨c, vs, rfl, h3⟩ := id h1
  exact q c us' e H ((h.vl h1).els h2)
theorem Ent.els1T {x : List α} (q : ∀ c, us = [.ref c] → Ent (vl (kT E) (.ref c) x :: L) φ) : Ent (vEls (kC1 (kT E)) us x :: L) φ := fun H h => by
  obtain ⟨⟨u, e, h1⟩, h⟩ := h.hd_els
  obtain ⟨c, vs, rfl, h3⟩ := id h1
  exact q c e H (h.vl h1)
theorem c_tupFz (t : Take (vl (kFz E) (.ref a) xs) L R) (q : ∀ p, Ent (vl (kT E) (.ref p) xs :: L) (Q (.ref p))) : Ent L fun H => rTupK K [.ref a] H Q := fun H z => by
  obtain ⟨c, o, vs, e, h1, h2⟩ := t.vl z
  cases e
  refine ⟨_, vs, rfl, .inl ⟨.inl (.inr ⟨o, h1⟩), fun p np => q p _ ?_⟩⟩
  have h3 : Holds L (L2.upd H p (.tup vs)) := Sub.to (Sub.drop Sub.refl) (z.newI (o := .tup vs) np rfl)
  exact h3.vl ⟨p, vs, rfl, SqT.of upd_same, h2.imp fun _ _ y => E.st y (keepI_new np)⟩
theorem c_inSq {xs : List Int} {i : Int} (h : SqAt (kI (K := K)) L v xs) (q : Ent L (Q (.bl (decide (i ∈ xs))))) : Ent L fun H => rIn K false (.int i) v H Q := fun H z => by
  cases h with
  | lst h =>
    obtain ⟨vs, h1, h2⟩ := h H z
    obtain rfl := all2_I h2
    exact ⟨_, _, rfl, .inl h1, rfl, flat_ints _, by rw [inV_int]; exact q H z⟩
  | tup h =>
    obtain ⟨a, vs, rfl, h1, h2⟩ := h H z
    obtain rfl := all2_I h2
    exact ⟨_, _, rfl, .inr h1, rfl, flat_ints _, by rw [inV_int]; exact q H z⟩
theorem c_niSq {xs : List Int} {i : Int} (h : SqAt (kI (K := K)) L v xs) (q : Ent L (Q (.bl (!decide (i ∈ xs))))) : Ent L fun H => rIn K true (.int i) v H Q := fun H z => by
  cases h with
  | lst h =>
    obtain ⟨vs, h1, h2⟩ := h H z
    obtain rfl := all2_I h2
    exact ⟨_, _, rfl, .inl h1, rfl, flat_ints _, by rw [inV_int]; exact q H z⟩
  | tup h =>
    obtain ⟨a, vs, rfl, h1, h2⟩ := h H z
    obtain rfl := all2_I h2
    exact ⟨_, _, rfl, .inr h1, rfl, flat_ints _, by rw [inV_int]; exact q H z⟩
/-! a new list out of two, frozen ones too -/
def RdL (E : El K α) (L : List HA) (a : Addr) (xs : List α) : Prop := ∀ H, Holds L H → ∃ us, Rd H a (.lst us) ∧ All2 (E.P H) us xs
theorem rdL_ls (t : Take (ls E a xs) L R) : RdL E L a xs := fun H h => by
  obtain ⟨us, h1, h2⟩ := t.ls h
  exact ⟨us, .inl h1, h2⟩
theorem rdL_fz (t : Take (vl (kFz E) (.ref a) xs) L R) : RdL E L a xs := fun H h => by
  obtain ⟨c, o, us, e, h1, h2⟩ := t.vl h
  cases e
  exact ⟨us, .inr ⟨o, h1⟩, h2⟩
def rCatZ : R2 := fun x y H Q => ∃ p r us ws, x = .ref p ∧ y = .ref r ∧ Rd H p (.lst us) ∧ Rd H r (.lst ws) ∧ us.length + ws.length ≤ sizeLine ∧ ∀ n, H n = none → Q (.ref n) (upd H n (.lst (us ++ ws)))
theorem op_catZ {X : Cx} : OpR X (binaryOp .Add) rCatZ := fun pins s σ H x y v u Q I rx ry ⟨p, r, us, ws, e1, e2, hp, hr, hz, q⟩ => by
  subst e1 e2
  obtain rfl : v = .ref p := rx
  obtain rfl : u = .ref r := ry
  obtain ⟨_, is1, n1, v1, g1⟩ := hp.ok I.hok
  obtain ⟨_, is2, n2, v2, g2⟩ := hr.ok I.hok
  have l1 := v1.length
  have l2 := v2.length
  have both : is1.toArray ++ is2.toArray = (is1 ++ is2).toArray := by simp
  refine PySem.P.add_list g1 g2 ?_ (by rw [List.size_toArray, List.size_toArray, ← l1, ← l2]; exact hz)
  rw [both]
  exact ⟨.ref _, _, I.lnew (t' := s.toks) (v1.append v2) (by rw [List.length_append]; exact hz), rfl, q _ I.fresh⟩
theorem c_catZ (E : El K α) {k : Prop} (hm : grd (xs.length + ys.length ≤ 100000) k) (h1 : RdL E L a xs) (h2 : RdL E L b ys) (q : k → ∀ p, Ent (ls E p (xs ++ ys) :: L) (Q (.ref p))) : Ent L fun H => rCatZ (.ref a) (.ref b) H Q := fun H h => by
  obtain ⟨us, z1, z2⟩ := h1 H h
  obtain ⟨ws, z3, z4⟩ := h2 H h
  exact ⟨a, b, us, ws, rfl, rfl, z1, z3, by rw [z2.len, z4.len]; exact Nat.le_trans hm.1 (by decide), fun p np => q hm.2 p _ (h.ls_new np (z2.app z4))⟩
end
/-! a frozen list, walked -/
def iFz (K : PySem.W.Frag) (te : TE) : TI := iList K te
def kLcF (K : PySem.W.Frag) (v : V) (g : TG) (tt : TT) (te : TE) (vs : List Nat) : TE := tLc (iFz K (tC v)) g tt te vs
section
variable {K : PySem.W.Frag} {α β : Type} {L R : List HA} {σ : L2.St} {Q : VK} {E : El K α} {a : Addr} {xs : List α} {te : TE}
theorem pi_fz {X : Cx} {tg l : Expr} {tl : TE} (hl : PE X l tl) (hK : X.K = K := by rfl) : PI X tg l (iFz K tl) := by
  subst hK
  exact pi_list hl
theorem e_lcF0 {t0 : TE} {g : TG} {tt : TT} {vs : List Nat} (q : Ent L fun H => t0 σ H fun v H1 => kLcF K v g tt te vs σ H1 Q) : Ent L fun H => tLc (iFz K t0) g tt te vs σ H Q := fun H h => q H h
theorem c_lcFz {bd : α → (Option β → Prop) → Prop} {k : List β → Prop} {g : TG} {tt : TT} {vs : List Nat} (E' : El K β) (hm : grd (xs.length ≤ 100000) (lcL xs [] bd k)) (t : Take (vl (kFz E) (.ref a) xs) L R)
    (step : ∀ x (nxt : Option β → Prop), bd x nxt → ∀ v D ys (r : VK) (s : Hp → Prop), (∀ v' y, nxt (some y) → Ent (vl E' v' y :: ls E' D ys :: L) (r v')) → (nxt none → Ent (ls E' D ys :: L) s) → Ent (vl E v x :: ls E' D ys :: L) fun H => g v (wipe σ vs) H fun σ2 H2 => wipe σ2 vs = wipe σ vs ∧ tt σ2 H2 fun b H3 => if b = true then te σ2 H3 r else s H3)
    (q : ∀ ys, k ys → ∀ D, Ent (ls E' D ys :: L) (Q (.ref D))) : Ent L fun H => kLcF K (.ref a) g tt te vs σ H Q := fun H h => by
  have z : ∀ H, Holds L H → ∃ vs, SqL K H a vs ∧ All2 (E.P H) vs xs := fun H h => by
    obtain ⟨c, o, us, e, h1, h2⟩ := t.vl h
    cases e
    exact ⟨us, .inl (.inr ⟨o, h1⟩), h2⟩
  obtain ⟨ws, h1, _⟩ := z H h
  exact ⟨_, rfl, ⟨ws, h1⟩, lcSq_core E' (walk_sq z) z hm step q h⟩
end
end Toy
namespace Toy
open PySem L2 PySem.Spec PyProof.Rows
/-! ## tuples of a known length, cut and joined -/
section
variable {K : PySem.W.Frag} {α β γ M B : Type} {L R R' : List HA} {σ : L2.St} {Q : VK} {φ : Hp → Prop} {E : El K α} {F : El K β} {a b l : Addr} {v u y : V} {us vs ys : List V} {nx bk ct : L2.St → Hp → Prop} {rt : VK}
theorem c_slT {lo hi : Option Int} {n : Nat} (h : HasT K L a us) (e : cutV us lo hi = ys) (hn : us.length = n) (hw : (decide (HT.sIx n 0 lo = 0) && decide (HT.sIx n n hi = n)) = false) (q : ∀ p, Ent (tu p ys :: L) (Q (.ref p))) : Ent L fun H => rSlT K (.ref a) lo hi H Q := e_slT h (by subst hn; simpa using hw) fun p => by rw [e]; exact q p
theorem c_catT (h1 : HasT K L a us) (h2 : HasT K L b vs) (e : us ++ vs = ys) (hx : us ≠ []) (hy : vs ≠ []) (hz : us.length + vs.length ≤ 100000) (q : ∀ p, Ent (tu p ys :: L) (Q (.ref p))) : Ent L fun H => rCatT K (.ref a) (.ref b) H Q := e_catT h1 h2 hx hy hz fun p => by rw [e]; exact q p
theorem c_opnSl {Es : Els K α} {x : α} {lo hi : Option Int} (t : Take (vl (kTup Es) v x) L R) (q : ∀ a us, v = .ref a → Ent (vEls Es us x :: tu a us :: L) fun H => rSlT K v lo hi H Q) : Ent L fun H => rSlT K v lo hi H Q := Ent.tupO t q
theorem c_opnCat1 {Es : Els K α} {x : α} (t : Take (vl (kTup Es) v x) L R) (q : ∀ a us, v = .ref a → Ent (vEls Es us x :: tu a us :: L) fun H => rCatT K v y H Q) : Ent L fun H => rCatT K v y H Q := Ent.tupO t q
theorem c_opnCat2 {Es : Els K α} {x : α} (t : Take (vl (kTup Es) v x) L R) (q : ∀ a us, v = .ref a → Ent (vEls Es us x :: tu a us :: L) fun H => rCatT K y v H Q) : Ent L fun H => rCatT K y v H Q := Ent.tupO t q
/-! ## loops over enumerate, zip -/
theorem walk_enE (E : El K α) (l : Addr) (xs : List α) : Walk (Ite K l) xs.length (fun H => ∃ vs, H l = some (.lst vs) ∧ All2 (E.P H) vs xs) (fun i H v H' => ∃ T x u, v = .ref T ∧ H T = none ∧ H' = upd H T (.tup [.int i, u]) ∧ xs[i]? = some x ∧ E.P H u x) :=
  ⟨fun i H hi ⟨vs, z1, z2⟩ => (walk_enum (K := K) (a := l) (xs := vs)).goes i H (by rw [z2.len]; exact hi) (SqL.of z1), fun H ⟨vs, z1, z2⟩ => by
    have := (walk_enum (K := K) (a := l) (xs := vs)).stops H (SqL.of z1)
    rw [z2.len] at this
    exact this, fun i H x H' hi ⟨vs, z1, z2⟩ y => by
    obtain ⟨T, a, b, e1, e2, e3, e4, e5⟩ := (walk_enum (K := K) (a := l) (xs := vs)).yields i H x H' (by rw [z2.len]; exact hi) (SqL.of z1) y
    obtain rfl : V.int (i : Nat) = a := Option.some.inj e4
    obtain ⟨x', hx, hp⟩ := z2.get e5
    exact ⟨T, x', b, e1, e2, e3, hx, hp⟩⟩
theorem c_forEn {xs : List α} {m0 : M} {bd : Int × α → M → (M → Prop) → (M → Prop) → Prop} {k : M → Prop} {g : TG} {tb : TS} (hm : forL (enI xs) m0 bd k) (up : M → B → List (Option (Option V))) (Pm : M → B → List HA) (b0 : B) (h0 : σ = upds σ (up m0 b0)) (s0 : Sub L (Pm m0 b0 ++ R)) (t : Take (ls E l xs) R R')
    (hs : (∀ m b, k m → Ent (Pm m b ++ R) (nx (upds σ (up m b)))) → ∀ x m b (nxt : M → Prop), bd x m nxt k → ∀ T v, Ent (tu T [.int x.1, v] :: vl E v x.2 :: (Pm m b ++ R)) fun H => g (.ref T) (upds σ (up m b)) H fun σ2 H2 => tb ⟨fun σ' H' => ∃ m b, nxt m ∧ σ' = upds σ (up m b) ∧ Holds (Pm m b ++ R) H', rt, nx, fun σ' H' => ∃ m b, nxt m ∧ σ' = upds σ (up m b) ∧ Holds (Pm m b ++ R) H'⟩ σ2 H2)
    (hd : ∀ m b, k m → Ent (Pm m b ++ R) (nx (upds σ (up m b)))) : Ent L fun H => kEnum K (kLoop g tb ⟨nx, rt, bk, ct⟩ σ) [.ref l] H := fun H h => by
  have hL : ∀ m b H', Holds (Pm m b ++ R) H' → ∃ vs, H' l = some (.lst vs) ∧ All2 (E.P H') vs xs := fun m b H' z => by
    obtain ⟨S, z⟩ := z
    obtain ⟨S1, S2, _, z2, _⟩ := HL.app.mp z
    exact t.ls ⟨S2, z2⟩
  obtain ⟨ws, h1, h2⟩ := hL m0 b0 H (s0.to h)
  refine ⟨l, ws, rfl, SqL.of h1, w_loop (walk_enE E l xs) (fun i σ' H' => ∃ m b, forL ((enI xs).drop i) m bd k ∧ i ≤ xs.length ∧ σ' = upds σ (up m b) ∧ Holds (Pm m b ++ R) H') ⟨m0, b0, hm, Nat.zero_le _, h0, s0.to h⟩ (fun i σ' H' _ ⟨m, b, _, _, _, z⟩ => hL m b H' z) (fun i v σ' H' H'' hi ⟨m, b, hf, _, e, z⟩ ⟨T, x, u, e2, nT, eH, hx, hp⟩ => ?_) fun σ' H' ⟨m, b, hf, _, e, z⟩ => ?_⟩
  · subst e e2 eH
    have ed : (enI xs).drop i = ((i : Int), x) :: (enI xs).drop (i + 1) := by
      rw [List.drop_eq_getElem_cons (by rw [enI_len]; exact hi)]
      congr 1
      exact Option.some.inj ((List.getElem?_eq_getElem (by rw [enI_len]; exact hi)).symm.trans (enI_get hx))
    rw [ed, forL_cons] at hf
    have z0 : Holds (tu T [.int i, u] :: vl E u x :: (Pm m b ++ R)) (upd H' T (.tup [.int i, u])) := Sub.to Sub.swap ((z.newI (o := .tup [.int i, u]) nT rfl).vl (E := E) (x := x) (v := u) (E.st hp (keepI_new nT)))
    have r := hs hd ((i : Int), x) m b (fun m' => forL ((enI xs).drop (i + 1)) m' bd k ∧ i + 1 ≤ xs.length) (by
      have : (fun m' => forL ((enI xs).drop (i + 1)) m' bd k ∧ i + 1 ≤ xs.length) = fun m' => forL ((enI xs).drop (i + 1)) m' bd k := by
        funext m'
        exact propext ⟨fun z => z.1, fun z => ⟨z, hi⟩⟩
      rw [this]
      exact hf) T u _ z0
    simpa only [and_assoc] using r
  · subst e
    rw [List.drop_eq_nil_of_le (by rw [enI_len]; exact Nat.le_refl _)] at hf
    exact hd m b hf H' z
/-! ## ranges, walked -/
theorem walk_rg (lo : Int) (n : Nat) : Walk (Itr lo n) (rgI lo n).length (fun _ => True) (fun i H x H' => H' = H ∧ ∃ e, (rgI lo n)[i]? = some e ∧ (kI (K := K)).P H x e) := by
  rw [rgI_len]
  have w := walk_range (lo := lo) (n := n)
  exact ⟨fun i H hi h => w.goes i H hi h, fun H h => w.stops H h, fun i H x H' hi h y => by
    obtain ⟨e1, e2⟩ := w.yields i H x H' hi h y
    exact ⟨e1, _, rgI_get hi, e2⟩⟩
def kLcR1 (g : TG) (tt : TT) (te : TE) (vs : List Nat) (σ : L2.St) (Q : VK) (us : List V) (H : Hp) : Prop := ∃ j : Int, us = [.int j] ∧ -(2 ^ 62) ≤ j ∧ j < 2 ^ 62 ∧ ∀ D, H D = none → ∃ W : Nat → Nat → Hp → Prop, (∃ m, W 0 m (upd H D (.lst []))) ∧ ∀ i m H, W i m H →
  ((Itr 0 j.toNat).stop i H ∧ Q (.ref D) H) ∨ ((Itr 0 j.toNat).go i H ∧ ∃ Nx : Hp → Prop, (∀ H', Nx H' → ∃ m', m' < m ∧ W (i + 1) m' H') ∧ ∀ x H', (Itr 0 j.toNat).yld i H x H' → g x (wipe σ vs) H' fun σ2 H2 => wipe σ2 vs = wipe σ vs ∧ tt σ2 H2 fun b H3 =>
    if b = true then te σ2 H3 fun y H4 => ∃ acc, H4 D = some (.lst acc) ∧ acc.length < sizeLine ∧ Nx (upd H4 D (.lst (acc ++ [y]))) else Nx H3)
def kLcR2 (g : TG) (tt : TT) (te : TE) (vs : List Nat) (σ : L2.St) (Q : VK) (us : List V) (H : Hp) : Prop := ∃ i0 j : Int, us = [.int i0, .int j] ∧ (-(2 ^ 62) ≤ i0 ∧ i0 < 2 ^ 62 ∧ -(2 ^ 62) ≤ j ∧ j < 2 ^ 62) ∧ ∀ D, H D = none → ∃ W : Nat → Nat → Hp → Prop, (∃ m, W 0 m (upd H D (.lst []))) ∧ ∀ i m H, W i m H →
  ((Itr i0 (j - i0).toNat).stop i H ∧ Q (.ref D) H) ∨ ((Itr i0 (j - i0).toNat).go i H ∧ ∃ Nx : Hp → Prop, (∀ H', Nx H' → ∃ m', m' < m ∧ W (i + 1) m' H') ∧ ∀ x H', (Itr i0 (j - i0).toNat).yld i H x H' → g x (wipe σ vs) H' fun σ2 H2 => wipe σ2 vs = wipe σ vs ∧ tt σ2 H2 fun b H3 =>
    if b = true then te σ2 H3 fun y H4 => ∃ acc, H4 D = some (.lst acc) ∧ acc.length < sizeLine ∧ Nx (upd H4 D (.lst (acc ++ [y]))) else Nx H3)
theorem e_lcR10 {tas : TA} {g : TG} {tt : TT} {te : TE} {vs : List Nat} (q : Ent L fun H => tas σ H (kLcR1 g tt te vs σ Q)) : Ent L fun H => tLc (iRng1 tas) g tt te vs σ H Q := q
theorem e_lcR20 {tas : TA} {g : TG} {tt : TT} {te : TE} {vs : List Nat} (q : Ent L fun H => tas σ H (kLcR2 g tt te vs σ Q)) : Ent L fun H => tLc (iRng2 tas) g tt te vs σ H Q := q
theorem c_lcR1 {n : Int} {bd : Int → (Option β → Prop) → Prop} {k : List β → Prop} {g : TG} {tt : TT} {te : TE} {vs : List Nat} (E' : El K β) (hm : grd (-100000 ≤ n ∧ n ≤ 100000) (lcL (rgI 0 n.toNat) [] bd k))
    (step : ∀ x (nxt : Option β → Prop), bd x nxt → ∀ v D ys (r : VK) (s : Hp → Prop), (∀ v' y, nxt (some y) → Ent (vl E' v' y :: ls E' D ys :: L) (r v')) → (nxt none → Ent (ls E' D ys :: L) s) → Ent (vl (K := K) kI v x :: ls E' D ys :: L) fun H => g v (wipe σ vs) H fun σ2 H2 => wipe σ2 vs = wipe σ vs ∧ tt σ2 H2 fun b H3 => if b = true then te σ2 H3 r else s H3)
    (q : ∀ ys, k ys → ∀ D, Ent (ls E' D ys :: L) (Q (.ref D))) : Ent L fun H => kLcR1 g tt te vs σ Q [.int n] H := fun H h => by
  refine ⟨n, rfl, by have := hm.1; omega, by have := hm.1; omega, ?_⟩
  exact lcSq_core E' (walk_rg 0 n.toNat) (fun _ _ => trivial) ⟨by rw [rgI_len]; have := hm.1; omega, hm.2⟩ step q h
theorem c_lcR2 {i0 n : Int} {bd : Int → (Option β → Prop) → Prop} {k : List β → Prop} {g : TG} {tt : TT} {te : TE} {vs : List Nat} (E' : El K β) (hm : grd (-1000000000000 ≤ i0 ∧ i0 ≤ 1000000000000 ∧ n - i0 ≤ 100000 ∧ -1000000000000 ≤ n ∧ n ≤ 1000000000000) (lcL (rgI i0 (n - i0).toNat) [] bd k))
    (step : ∀ x (nxt : Option β → Prop), bd x nxt → ∀ v D ys (r : VK) (s : Hp → Prop), (∀ v' y, nxt (some y) → Ent (vl E' v' y :: ls E' D ys :: L) (r v')) → (nxt none → Ent (ls E' D ys :: L) s) → Ent (vl (K := K) kI v x :: ls E' D ys :: L) fun H => g v (wipe σ vs) H fun σ2 H2 => wipe σ2 vs = wipe σ vs ∧ tt σ2 H2 fun b H3 => if b = true then te σ2 H3 r else s H3)
    (q : ∀ ys, k ys → ∀ D, Ent (ls E' D ys :: L) (Q (.ref D))) : Ent L fun H => kLcR2 g tt te vs σ Q [.int i0, .int n] H := fun H h => by
  refine ⟨i0, n, rfl, by have := hm.1; omega, ?_⟩
  exact lcSq_core E' (walk_rg i0 (n - i0).toNat) (fun _ _ => trivial) ⟨by rw [rgI_len]; have := hm.1; omega, hm.2⟩ step q h
/-! loops over range(a, b) -/
theorem forX_core {J : It} {G : Hp → Prop} {xs : List α} {m0 : M} {bd : α → M → (M → Prop) → (M → Prop) → Prop} {k : M → Prop} {g : TG} {tb : TS} (w : Walk J xs.length G (fun i H x H' => H' = H ∧ ∃ e, xs[i]? = some e ∧ E.P H x e)) (hm : forL xs m0 bd k) (up : M → B → List (Option (Option V))) (Pm : M → B → List HA) (b0 : B) (h0 : σ = upds σ (up m0 b0)) (s0 : Sub L (Pm m0 b0 ++ R)) (hG : ∀ H, Holds R H → G H)
    (hs : (∀ m b, k m → Ent (Pm m b ++ R) (nx (upds σ (up m b)))) → ∀ x m b (nxt : M → Prop), bd x m nxt k → ∀ v, Ent (vl E v x :: (Pm m b ++ R)) fun H => g v (upds σ (up m b)) H fun σ2 H2 => tb ⟨fun σ' H' => ∃ m b, nxt m ∧ σ' = upds σ (up m b) ∧ Holds (Pm m b ++ R) H', rt, nx, fun σ' H' => ∃ m b, nxt m ∧ σ' = upds σ (up m b) ∧ Holds (Pm m b ++ R) H'⟩ σ2 H2)
    (hd : ∀ m b, k m → Ent (Pm m b ++ R) (nx (upds σ (up m b)))) : Ent L fun H => kLoop g tb ⟨nx, rt, bk, ct⟩ σ J H := fun H h => by
  have hL : ∀ m b H', Holds (Pm m b ++ R) H' → G H' := fun m b H' z => by
    obtain ⟨S, z⟩ := z
    obtain ⟨S1, S2, _, z2, _⟩ := HL.app.mp z
    exact hG H' ⟨S2, z2⟩
  refine w_loop w (fun i σ' H' => ∃ m b, forL (xs.drop i) m bd k ∧ i ≤ xs.length ∧ σ' = upds σ (up m b) ∧ Holds (Pm m b ++ R) H') ⟨m0, b0, hm, Nat.zero_le _, h0, s0.to h⟩ (fun i σ' H' _ ⟨m, b, _, _, _, z⟩ => hL m b H' z) (fun i x σ' H' H'' hi ⟨m, b, hf, _, e, z⟩ ⟨e2, y, hy, hp⟩ => ?_) fun σ' H' ⟨m, b, hf, _, e, z⟩ => ?_
  · subst e e2
    have ed : xs.drop i = y :: xs.drop (i + 1) := by
      rw [List.drop_eq_getElem_cons hi]
      congr 1
      exact Option.some.inj ((List.getElem?_eq_getElem hi).symm.trans hy)
    rw [ed, forL_cons] at hf
    have r := hs hd y m b (fun m' => forL (xs.drop (i + 1)) m' bd k ∧ i + 1 ≤ xs.length) (by
      have : (fun m' => forL (xs.drop (i + 1)) m' bd k ∧ i + 1 ≤ xs.length) = fun m' => forL (xs.drop (i + 1)) m' bd k := by
        funext m'
        exact propext ⟨fun z => z.1, fun z => ⟨z, hi⟩⟩
      rw [this]
      exact hf) x H'' (z.vl hp)
    simpa only [and_assoc] using r
  · subst e
    rw [List.drop_length] at hf
    exact hd m b hf H' z
def kR2 (g : TG) (tb : TS) (D : Ends) (σ : L2.St) (us : List V) (H : Hp) : Prop := ∃ i j : Int, us = [.int i, .int j] ∧ (-(2 ^ 62) ≤ i ∧ i < 2 ^ 62 ∧ -(2 ^ 62) ≤ j ∧ j < 2 ^ 62) ∧ kLoop g tb D σ (Itr i (j - i).toNat) H
theorem e_forR2 {tas : TA} {g : TG} {tb : TS} (q : Ent L fun H => tas σ H fun vs H1 => kR2 g tb ⟨nx, rt, bk, ct⟩ σ vs H1) : Ent L fun H => tFor (iRng2 tas) g tb ⟨nx, rt, bk, ct⟩ σ H := q
theorem c_forR2 {i0 n : Int} {m0 : M} {bd : Int → M → (M → Prop) → (M → Prop) → Prop} {k : M → Prop} {g : TG} {tb : TS} (hm : grd (-1000000000000 ≤ i0 ∧ i0 ≤ 1000000000000 ∧ -1000000000000 ≤ n ∧ n ≤ 1000000000000) (forL (rgI i0 (n - i0).toNat) m0 bd k)) (up : M → B → List (Option (Option V))) (Pm : M → B → List HA) (b0 : B) (h0 : σ = upds σ (up m0 b0)) (s0 : Sub L (Pm m0 b0 ++ R))
    (hs : (∀ m b, k m → Ent (Pm m b ++ R) (nx (upds σ (up m b)))) → ∀ (x : Int) m b (nxt : M → Prop), bd x m nxt k → Ent (Pm m b ++ R) fun H => g (.int x) (upds σ (up m b)) H fun σ2 H2 => tb ⟨fun σ' H' => ∃ m b, nxt m ∧ σ' = upds σ (up m b) ∧ Holds (Pm m b ++ R) H', rt, nx, fun σ' H' => ∃ m b, nxt m ∧ σ' = upds σ (up m b) ∧ Holds (Pm m b ++ R) H'⟩ σ2 H2)
    (hd : ∀ m b, k m → Ent (Pm m b ++ R) (nx (upds σ (up m b)))) : Ent L fun H => kR2 g tb ⟨nx, rt, bk, ct⟩ σ [.int i0, .int n] H := fun H h => by
  refine ⟨i0, n, rfl, by have := hm.1; omega, ?_⟩
  refine forX_core (E := kI (K := [])) (walk_rg i0 (n - i0).toNat) hm.2 up Pm b0 h0 s0 (fun _ _ => trivial) (fun hk x m b nxt hb v => ?_) hd H h
  intro H' z
  obtain ⟨e, z'⟩ := z.hd_vl
  obtain rfl : v = .int x := e
  exact hs hk x m b nxt hb H' z'
theorem c_rgLs {i j : Int} {k : Prop} (hm : grd (0 ≤ i ∧ j ≤ 16777216 ∧ i ≤ 16777216 ∧ 0 ≤ j) k) (q : k → ∀ p, Ent (ls (kI (K := K)) p (rgI i (j - i).toNat) :: L) (Q (.ref p))) : Ent L fun H => kRgL Q i j H := fun H h => by
  refine ⟨RgOk.of_le hm.1.1 hm.1.2.1 hm.1.2.2.1 hm.1.2.2.2, fun p np => q hm.2 p _ ?_⟩
  have e : rgV i j = (rgI i (j - i).toNat).map V.int := by
    unfold rgV rgI
    rw [List.map_map]
    rfl
  rw [e]
  exact h.ls_new np (All2.map V.int fun _ _ => rfl)
/-! ## list.remove of data -/
theorem _root_.L2.Room.units65 {k : Nat} {A : Around} (r : L2.Room k A) : A.units + 65 < cLine := by
  have := r.un
  omega
def rRemD (K : PySem.W.Frag) : V → List V → Hp → VK → Prop := fun x xs H Q => ∃ (l : Addr) (y : V) (us : List V) (d : PyData) (ds : List PyData) (j : Nat), x = .ref l ∧ xs = [y] ∧ H l = some (.lst us) ∧ DpAll K H us ds ∧ Dp K H y d ∧ PyData.canLayAll0 ds = true ∧ d.canLay0 = true ∧ PyData.depthAll ds ≤ 64 ∧
  (ds.findIdx? fun z => PyData.eqv z d) = some j ∧ Q .non (upd H l (.lst (us.eraseIdx j)))
theorem mt_remD {X : Cx} (hu : X.A.units + 65 < cLine) (hK : X.K = K := by rfl) : MtM X "list.remove" (rRemD K) := by
  subst hK
  intro pins s σ H x xs v us Q I rx rxs h
  obtain ⟨l, y, ws, d, ds, j, rfl, rfl, hH, hall, hd, hl0, hd0, hdep, hj, q⟩ := h
  cases rx
  obtain ⟨u, rfl, ru⟩ := rxs.one
  obtain ⟨z, its, n, r, hl, e⟩ := I.lstM hH
  obtain ⟨bs, r1⟩ := Dp.reads I d y u hd ru
  obtain ⟨as, h4⟩ := Dp.readsAll I ds ws its hall r
  have hn : its.length = ds.length := SeqAt.ReadsAll.length ds its as h4
  have hmap : its.map (SeqAt.readOf s.heap) = ds := SeqAt.readsAll_map ds its as hl0 h4
  obtain ⟨hjd, h2, h3⟩ := List.findIdx?_eq_some_iff_getElem.mp hj
  have hroom : X.A.units + 1 + min (PyData.depthAll ds) d.depth < cLine := by
    have := Nat.min_le_left (PyData.depthAll ds) d.depth
    omega
  have at_ : ∀ (m : Nat) (hm : m < its.toArray.size) (hm2 : m < ds.length), SeqAt.readOf s.heap its.toArray[m] = ds[m] := by
    intro m hm hm2
    have hml : m < its.length := by simpa using hm
    have e1 : (its.map (SeqAt.readOf s.heap))[m]? = ds[m]? := by rw [hmap]
    rw [List.getElem?_map, List.getElem?_eq_getElem hml, List.getElem?_eq_getElem hm2] at e1
    simpa using Option.some.inj e1
  have hjl : j < its.toArray.size := by rw [List.size_toArray]; omega
  refine call_meets PySem.F.slot_list_remove ⟨_, e, rfl⟩ PySem.F.entry_list_remove (PySem.F.args_list_remove_2 _ _)
    (SeqAt.list_removeAt l its.toArray n none #[] u (fun y => PyData.eqv (SeqAt.readOf s.heap y) d) j hjl ?_ ?_ (by rw [List.size_toArray, ← hl]; exact z)) ⟨e, SeqAt.items_eqAt (vs := its.toArray) (show ReadsAll s.heap its.toArray.toList ds as from h4) r1 hl0 hd0 hroom, ?_⟩
  · show PyData.eqv (SeqAt.readOf s.heap its.toArray[j]) d = true
    rw [at_ j hjl hjd]
    exact h2
  · intro m hm hmj
    show PyData.eqv (SeqAt.readOf s.heap its.toArray[m]) d = false
    rw [at_ m hm (by omega)]
    simpa using h3 m hmj
  · have rr := r.eraseIdx j
    refine ⟨.non, _, I.lset (its' := its.eraseIdx j) (t' := s.toks) hH e ?_ rr ?_, rfl, q⟩
    · show its.toArray.eraseIdxIfInBounds j = (its.eraseIdx j).toArray
      rw [List.eraseIdxIfInBounds_toArray]
    · have := List.length_eraseIdx_le ws j
      omega
theorem c_remD [DecidableEq α] {xs : List α} {x : α} {k : Nat → Prop} (hm : obx (ixof xs x) k) (t : Take (ls E l xs) L R) (hv : Is E L v x) (D : ElD E) (hn : D.n ≤ 64) (q : ∀ j, k j → Ent (ls E l (xs.eraseIdx j) :: R) (Q .non)) : Ent L fun H => rRemD K (.ref l) [v] H Q := fun H h => by
  obtain ⟨j, e, hk⟩ := hm
  obtain ⟨us, h1, h2⟩ := t.ls h
  have hx := hv H h
  refine ⟨l, v, us, E.d x, xs.map E.d, j, rfl, rfl, h1, dpAll_of (h2.imp fun _ _ z => E.dp z), E.dp hx, ElD.layAll h2, D.lay hx, Nat.le_trans (ElD.depAll xs) hn, ?_, q j hk _ ?_⟩
  · rw [List.findIdx?_map]
    unfold ixof at e
    have : (fun z : α => decide (z = x)) = ((fun z => PyData.eqv z (E.d x)) ∘ E.d) := by
      funext z
      exact (D.eqv z x).symm
    rw [this] at e
    exact e
  · obtain ⟨vs, h3, h4⟩ := (t.to h).ls_op
    have e2 : us = vs := by
      have := h3.pt_get
      rw [h1] at this
      cases this
      rfl
    subst e2
    exact Holds.ls_upd (t.to h) (h4.eraseIdx j)
/-! ## things of several owners: options and tuples that hold what is owned -/
structure Ok (α : Type) where
  R : V → α → HA
structure Oks (α : Type) where
  R : List V → α → HA
def oE (E : El K α) : Ok α := ⟨fun v x => vl E v x⟩
def oI (A : Addr → α → HA) : Ok α := ⟨fun v x => ex fun a : Addr => all [pu (v = .ref a), A a x]⟩
def oO (O : Ok α) : Ok (Option α) := ⟨fun v x => match x with | none => pu (v = .non) | some y => O.R v y⟩
def oC1 (O : Ok α) : Oks α := ⟨fun us x => ex fun u : V => all [pu (us = [u]), O.R u x]⟩
def oC (O : Ok α) (Os : Oks β) : Oks (α × β) := ⟨fun us x => ex fun u : V => ex fun us' : List V => all [pu (us = u :: us'), O.R u x.1, Os.R us' x.2]⟩
def oT (Os : Oks α) : Ok α := ⟨fun v x => ex fun p : Addr => ex fun us : List V => all [pu (v = .ref p), tu p us, Os.R us x]⟩
class OkN {α : Type} (O : Ok α) : Prop where
  n : ∀ {v x L H}, Holds (O.R v x :: L) H → v ≠ .non
instance {A : Addr → α → HA} : OkN (oI A) := ⟨fun {v x L H} h z => by
  obtain ⟨S, S1, S2, ⟨a, ⟨_, _, h1, _⟩⟩, _⟩ := h
  rw [z] at h1
  cases h1.1⟩
instance {Os : Oks α} : OkN (oT Os) := ⟨fun {v x L H} h z => by
  obtain ⟨S, S1, S2, ⟨a, us, ⟨_, _, h1, _⟩⟩, _⟩ := h
  rw [z] at h1
  cases h1.1⟩
section
variable {O : Ok α} {Os : Oks β} {Oa : Oks α} {A : Addr → α → HA}
theorem c_getO {o : Option α} {k : α → Prop} (hm : obg o k) (t : Take ((oO O).R v o) L R) (q : ∀ w, k w → o = some w → Ent (O.R v w :: R) φ) : Ent L φ := by
  obtain ⟨w, e, hk⟩ := hm
  subst e
  exact Ent.sub t (q w hk rfl)
theorem ow_none {o : Option α} [N : OkN O] (t : Take ((oO O).R v o) L R) {H : Hp} (h : Holds L H) : decide (v = V.non) = o.isNone := by
  have z := t.to h
  cases o with
  | none =>
    obtain ⟨S, S1, S2, h1, _⟩ := z
    simp [h1.1]
  | some w => simpa using N.n z
theorem c_isOw {o : Option α} (t : Take ((oO O).R v o) L R) (n : OkN O) (q : Ent L (Q (.bl o.isNone))) : Ent L fun H => rIsN v .non H Q := fun H h => ⟨rfl, by rw [ow_none t h]; exact q H h⟩
theorem c_noOw {o : Option α} (t : Take ((oO O).R v o) L R) (n : OkN O) (q : Ent L (Q (.bl (!o.isNone)))) : Ent L fun H => rNoN v .non H Q := fun H h => ⟨rfl, by rw [ow_none t h]; exact q H h⟩
theorem Ent.owT {x : α} (t : Take ((oT Oa).R v x) L R) (q : ∀ p us, v = .ref p → Ent (Oa.R us x :: tu p us :: R) φ) : Ent L φ := Ent.sub t (Ent.ex fun p => Ent.ex fun us => Ent.all (Ent.pu fun e => Ent.sub Sub.swap (q p us e)))
theorem Ent.owC {x : α × β} (q : ∀ u us', us = u :: us' → Ent (Os.R us' x.2 :: O.R u x.1 :: L) φ) : Ent ((oC O Os).R us x :: L) φ := Ent.ex fun u => Ent.ex fun us' => Ent.all (Ent.pu fun e => Ent.sub Sub.swap (q u us' e))
theorem Ent.owC1 {x : α} (q : ∀ u, us = [u] → Ent (O.R u x :: L) φ) : Ent ((oC1 O).R us x :: L) φ := Ent.ex fun u => Ent.all (Ent.pu fun e => q u e)
theorem Ent.owCI {x : α × β} (q : ∀ a us', us = .ref a :: us' → Ent (Os.R us' x.2 :: A a x.1 :: L) φ) : Ent ((oC (oI A) Os).R us x :: L) φ := Ent.owC fun u us' e => Ent.sub Sub.swap (Ent.ex fun a => Ent.all (Ent.pu fun e2 => by
  subst e2
  exact Ent.sub Sub.swap (q a us' e)))
theorem Ent.owC1I {x : α} (q : ∀ a, us = [.ref a] → Ent (A a x :: L) φ) : Ent ((oC1 (oI A)).R us x :: L) φ := Ent.owC1 fun u e => Ent.ex fun a => Ent.all (Ent.pu fun e2 => by
  subst e2
  exact q a e)
theorem Ent.owCE {x : α × β} {E : El K α} (q : ∀ u us', us = u :: us' → Ent (vl E u x.1 :: Os.R us' x.2 :: L) φ) : Ent ((oC (oE E) Os).R us x :: L) φ := Ent.owC fun u us' e => Ent.sub Sub.swap (q u us' e)
theorem Ent.owC1E {x : α} {E : El K α} (q : ∀ u, us = [u] → Ent (vl E u x :: L) φ) : Ent ((oC1 (oE E)).R us x :: L) φ := Ent.owC1 q
theorem Ent.owCEI {x : Int × β} (q : ∀ us', us = .int x.1 :: us' → Ent (Os.R us' x.2 :: L) φ) : Ent ((oC (oE (kI (K := K))) Os).R us x :: L) φ := Ent.owC fun u us' e => Ent.sub Sub.swap fun H h => by
  have z := Holds.hd_vl (E := kI (K := K)) (v := u) (x := x.1) h
  obtain rfl : u = .int x.1 := z.1
  exact q us' e H z.2
theorem Ent.owC1EI {x : Int} (q : us = [.int x] → Ent L φ) : Ent ((oC1 (oE (kI (K := K)))).R us x :: L) φ := Ent.owC1 fun u e H h => by
  have z := Holds.hd_vl (E := kI (K := K)) (v := u) (x := x) h
  obtain rfl : u = .int x := z.1
  exact q e H z.2
theorem c_opnO {x : α} {i : V} (t : Take ((oT Oa).R v x) L R) (q : ∀ a us, v = .ref a → Ent (Oa.R us x :: tu a us :: R) fun H => rIxT K v i H Q) : Ent L fun H => rIxT K v i H Q := Ent.owT t q
theorem c_opnOG {x : α} {n : Nat} {ts : TGs} {Q : L2.St → Hp → Prop} (t : Take ((oT Oa).R v x) L R) (q : ∀ a us, v = .ref a → Ent (Oa.R us x :: tu a us :: R) fun H => gTup K n ts v σ H Q) : Ent L fun H => gTup K n ts v σ H Q := Ent.owT t q
theorem Sub.oNone {N : List HA} (s : Sub L N) : Sub L ((oO O).R .non none :: N) := Sub.pu rfl s
theorem Sub.oSome {N : List HA} {x : α} (s : Sub L (O.R v x :: N)) : Sub L ((oO O).R v (some x) :: N) := s
theorem Sub.oSomeE {N : List HA} {o : Option α} {x : α} (e : o = some x) (s : Sub L (O.R v x :: N)) : Sub L ((oO O).R v o :: N) := by subst e; exact s
theorem Sub.oT {N : List HA} {x : α} {p : Addr} {us : List V} (s : Sub L (tu p us :: Oa.R us x :: N)) : Sub L ((oT Oa).R (.ref p) x :: N) := Sub.ex p (Sub.ex us (Sub.all (Sub.pu rfl s)))
theorem Sub.oTt {N : List HA} {x : α} {p : Addr} {us : List V} (t : Take (tu p us) L R) (s : Sub L (Oa.R us x :: N)) : Sub L ((Toy.oT Oa).R (.ref p) x :: N) := Sub.oT (Sub.take t.keep s)
theorem Sub.oC {N : List HA} {x : α} {y : β} {u : V} (s : Sub L (O.R u x :: Os.R us y :: N)) : Sub L ((oC O Os).R (u :: us) (x, y) :: N) := Sub.ex u (Sub.ex us (Sub.all (Sub.pu rfl s)))
theorem Sub.oC1 {N : List HA} {x : α} {u : V} (s : Sub L (O.R u x :: N)) : Sub L ((oC1 O).R [u] x :: N) := Sub.ex u (Sub.all (Sub.pu rfl s))
theorem Sub.oI {N : List HA} {x : α} {a : Addr} (s : Sub L (A a x :: N)) : Sub L ((oI A).R (.ref a) x :: N) := Sub.ex a (Sub.all (Sub.pu rfl s))
theorem Sub.oE {N : List HA} {x : α} {E : El K α} (s : Sub L (vl E v x :: N)) : Sub L ((oE E).R v x :: N) := s
end
end
end Toy
namespace Toy
open PySem L2 PySem.Spec PyProof.Rows
/-! ## dict(d) of a dict -/
section
variable {prog : Program} {w : World} {A : Around} {E : Value → Shared → Prop}
theorem call_dict_of {s : Shared} {d : Addr} {prs : List (L2.Key × Value)} {Q : Value → Shared → Prop} (hS : (d == sysModules) = false) (hd : s.heap.DictOf (mixKind prog w) d prs) (hln : prs.length ≤ sizeLine)
    (h : ∀ h', h'.DictOf (mixKind prog w) s.heap.objs.size (merged [] prs) → (∀ b o, s.heap.get? b = some o → h'.get? b = some o) → Q (.ref s.heap.objs.size) { s with heap := h' }) :
    wpAny (model prog w) A (call (.type "dict") [.ref d]) Q E s := by
  refine callType_codes (Q₁ := fun obj s₁ => obj = .ref s.heap.objs.size ∧ s₁ = { s with heap := s.heap.push { cls := .type "dict", data := .dict #[] } }) PySem.F.kt_called_dict (PySem.F.kt_typeCall_dict_1 _) PySem.F.entry_dict_init (kt_code_dict_new _ ⟨rfl, rfl⟩) ?_
  rintro obj s₁ ⟨rfl, rfl⟩
  have hnew : (s.heap.push { cls := .type "dict", data := .dict #[] }).DictOf (mixKind prog w) s.heap.objs.size [] := Heap.DictOf.new s.heap
  have k0 : ∀ b o, s.heap.get? b = some o → (s.heap.push { cls := .type "dict", data := .dict #[] }).get? b = some o := fun b o e => Heap.get?_push_of_some _ e
  have hd0 : (s.heap.push { cls := .type "dict", data := .dict #[] }).DictOf (mixKind prog w) d prs := hd.at fun o e => k0 _ _ e
  have hlt : d < s.heap.objs.size := by
    obtain ⟨o, _, _, e, _⟩ := hd
    exact Heap.lt_size e
  refine ⟨hnew.typeIs, PySem.F.args_dict_init_2 _ _, ?_⟩
  unfold Builtin.«dict.__init__»
  refine wpAny_bind ?_
  unfold Builtin.Dict.selfAndRest
  refine wpAny_bind (wpAny_notOrdered_dict hnew.typeIs ?_)
  show wpAny _ _ (pure (s.heap.objs.size, [Value.ref d])) _ _ _
  refine wpAny_pure ?_
  show wpAny _ _ (Builtin.Dict.updateFrom "dict.__init__" s.heap.objs.size (.ref d) [] .none) _ _ _
  unfold Builtin.Dict.updateFrom
  refine wpAny_bind (wpAny_typeOf hd0.typeIs ?_)
  rw [if_neg (by decide)]
  refine wpAny_bind ?_
  unfold Builtin.Dict.merge
  refine wpAny_bind ?_
  unfold Builtin.Dict.readDirectly
  refine wpAny_bind (wpAny_isInstance hd0.typeIs isSubtype_dict_dict ?_)
  simp only [Bool.not_true, Bool.false_eq_true, if_false]
  refine wpAny_bind (wpAny_specialOf hd0.typeIs PySem.F.slot_dict_iter.lookup (wpAny_pure ?_))
  simp only [beq_self_eq_true, if_true]
  refine wpAny_bind (wpAny_pure ?_)
  refine wpAny_mergeDict (hsz := by rw [List.length_nil, Nat.zero_add]; exact hln) (Nat.ne_of_gt hlt) hS hnew hd0 fun h' hd' ho' hs' => ?_
  show wpAny _ _ (Builtin.Dict.addKeywords s.heap.objs.size [] >>= _) _ _ _
  refine wpAny_bind (wpAny_pure (wpAny_pure ⟨rfl, h h' hd' fun b o e => ?_⟩))
  exact hs'.2 b (Nat.ne_of_lt (Heap.lt_size e)) |>.trans (k0 b o e)
end
theorem _root_.L2.Room.units1 {k : Nat} {A : Around} (r : L2.Room k A) : A.units + 1 < cLine := by
  have := r.un
  omega
def rDictCp : List V → Hp → VK → Prop := fun xs H Q => ∃ (a : Addr) (kvs : List (L2.Key × V)), xs = [.ref a] ∧ H a = some (.dK kvs) ∧ ∀ p, H p = none → Q (.ref p) (upd H p (.dK kvs))
theorem call_dictCp {X : Cx} : CallR X (.type "dict") rDictCp := by
  intro pins s σ H xs us Q I r q
  obtain ⟨a, kvs, ex, hd, q⟩ := q
  subst ex
  obtain ⟨u, eu, rx⟩ := vals1 r
  subst eu
  cases rx
  obtain ⟨z, hm, vs, rel, dd⟩ := dk_of I.hok hd
  refine call_dict_of hm dd (by rw [← rel.length]; exact z) fun h' hd' k => ?_
  have hm' : (s.heap.objs.size == sysModules) = false := beq_eq_false_iff_ne.mpr (Nat.ne_of_gt I.big)
  have nd : (vs.map (·.1)).Nodup := by
    obtain ⟨_, _, _, _, _, _, _, _, hn⟩ := dd
    exact hn
  rw [merged_nil_of_nodup vs nd] at hd'
  exact ⟨.ref s.heap.objs.size, upd H s.heap.objs.size (.dK kvs), I.laid (t' := s.toks) k (Nat.le_refl _) (show ObjOk X.prog X.w _ _ _ (.dK kvs) from ⟨z, hm', vs, rel, hd'⟩), rfl, q _ (I.hok.fresh (Nat.le_refl _))⟩
def rInDk : R2 := fun x y H Q => ∃ a o, y = .ref a ∧ DGet H a x o ∧ Q (.bl o.isSome) H
def rNiDk : R2 := fun x y H Q => ∃ a o, y = .ref a ∧ DGet H a x o ∧ Q (.bl (!o.isSome)) H
theorem op_inDk {X : Cx} (hu : X.A.units + 1 < cLine) : OpR X (compareOp .In) rInDk := fun pins s σ H x y v u Q I rx ry ⟨a, o, ex, g, q⟩ => by
  subst ex
  obtain rfl : u = Value.ref a := ry
  exact d_in hu I g rx fun s3 I3 => ⟨.bl o.isSome, H, I3, rfl, q⟩
theorem op_niDk {X : Cx} (hu : X.A.units + 1 < cLine) : OpR X (compareOp .NotIn) rNiDk := fun pins s σ H x y v u Q I rx ry ⟨a, o, ex, g, q⟩ => by
  subst ex
  obtain rfl : u = Value.ref a := ry
  exact d_notIn hu I g rx fun s3 I3 => ⟨.bl (!o.isSome), H, I3, rfl, q⟩
theorem isC_lsO {K : PySem.W.Frag} {α : Type} {E : El K α} {L R : List HA} {l : Addr} {xs : List α} (t : Take (ls E l xs) L R) : IsC (ctL (ctE (kO E))) L (.ref l) (xs.map some) := fun H h => by
  obtain ⟨vs, h1, h2⟩ := t.ls h
  refine ⟨l, vs, rfl, SqL.of h1, ?_⟩
  clear h1 t
  induction h2 with
  | nil => exact .nil
  | cons hp ht ih => exact .cons hp ih
/-! ## dicts as lists of pairs -/
section
variable {κ α : Type} [DecidableEq κ]
def dg (d : List (κ × α)) (x : κ) : Option α := (d.find? fun p => decide (p.1 = x)).map (·.2)
def dp (d : List (κ × α)) (x : κ) (v : α) : List (κ × α) := if (d.any fun p => decide (p.1 = x)) = true then d.map (fun p => if p.1 = x then (p.1, v) else p) else d ++ [(x, v)]
def dd (d : List (κ × α)) (x : κ) : List (κ × α) := d.filter fun p => decide (p.1 ≠ x)
theorem dg_nil (x : κ) : dg ([] : List (κ × α)) x = none := rfl
theorem dg_cons (p : κ × α) (d : List (κ × α)) (x : κ) : dg (p :: d) x = if p.1 = x then some p.2 else dg d x := by
  unfold dg
  rw [List.find?_cons]
  by_cases h : p.1 = x <;> simp [h]
theorem dg_put (d : List (κ × α)) (x y : κ) (v : α) : dg (dp d x v) y = if y = x then some v else dg d y := by
  unfold dp
  induction d with
  | nil =>
    simp only [List.any_nil, Bool.false_eq_true, if_false, List.nil_append, dg_cons, dg_nil]
    by_cases h : y = x
    · simp [h]
    · rw [if_neg (fun z => h z.symm), if_neg h]
  | cons p d ih =>
    by_cases hp : p.1 = x
    · simp only [List.any_cons, hp, decide_true, Bool.true_or, if_true, List.map_cons, dg_cons]
      by_cases hy : y = x
      · simp [hy]
      · rw [if_neg (fun z => hy z.symm), if_neg hy, if_neg (fun z => hy z.symm)]
        clear ih
        induction d with
        | nil => rfl
        | cons q d ih2 =>
          rw [List.map_cons, dg_cons, dg_cons]
          by_cases hq : q.1 = x
          · rw [if_pos hq]
            simp only
            rw [if_neg (fun z => hy (z.symm.trans hq)), if_neg (fun z => hy (z.symm.trans hq)), ih2]
          · rw [if_neg hq, ih2]
    · simp only [List.any_cons, hp, decide_false, Bool.false_or]
      by_cases ha : (d.any fun p => decide (p.1 = x)) = true
      · rw [if_pos ha] at ih ⊢
        rw [List.map_cons, if_neg hp, dg_cons, dg_cons, ih]
        by_cases h1 : p.1 = y
        · rw [if_pos h1, if_pos h1, if_neg (fun z => hp (h1.trans z))]
        · rw [if_neg h1, if_neg h1]
      · rw [if_neg ha] at ih ⊢
        rw [List.cons_append, dg_cons, dg_cons, ih]
        by_cases h1 : p.1 = y
        · rw [if_pos h1, if_pos h1, if_neg (fun z => hp (h1.trans z))]
        · rw [if_neg h1, if_neg h1]
theorem dg_del (d : List (κ × α)) (x y : κ) : dg (dd d x) y = if y = x then none else dg d y := by
  unfold dd
  induction d with
  | nil => by_cases h : y = x <;> simp [h, dg_nil]
  | cons p d ih =>
    by_cases hp : p.1 = x
    · rw [List.filter_cons_of_neg (by simp [hp]), ih, dg_cons]
      by_cases h : y = x
      · rw [if_pos h, if_pos h]
      · rw [if_neg h, if_neg h, if_neg (fun z => h (z.symm.trans hp))]
    · rw [List.filter_cons_of_pos (by simp [hp]), dg_cons, dg_cons, ih]
      by_cases h1 : p.1 = y
      · rw [if_pos h1, if_pos h1, if_neg (fun z => hp (h1.trans z))]
      · rw [if_neg h1, if_neg h1]
theorem dg_mem {d : List (κ × α)} {x : κ} : (dg d x).isSome = true ↔ x ∈ d.map (·.1) := by
  induction d with
  | nil => simp [dg_nil]
  | cons p d ih =>
    rw [dg_cons, List.map_cons, List.mem_cons]
    by_cases h : p.1 = x
    · simp [h]
    · rw [if_neg h, ih]
      exact ⟨.inr, fun z => z.elim (fun z => absurd z.symm h) id⟩
theorem dg_some_mem {d : List (κ × α)} {x : κ} {v : α} (h : dg d x = some v) : (x, v) ∈ d := by
  obtain ⟨p, h1, h2⟩ := Option.map_eq_some_iff.mp h
  have := List.find?_some h1
  have e : p.1 = x := of_decide_eq_true this
  rw [← e, ← h2]
  exact List.mem_of_find?_eq_some h1
theorem dp_len (d : List (κ × α)) (x : κ) (v : α) : (dp d x v).length ≤ d.length + 1 := by
  unfold dp
  split
  · simp
  · simp
theorem dp_new {d : List (κ × α)} {x : κ} (v : α) (h : x ∉ d.map (·.1)) : dp d x v = d ++ [(x, v)] := by
  unfold dp
  rw [if_neg]
  intro z
  obtain ⟨p, hp, e⟩ := List.any_eq_true.mp z
  exact h (List.mem_map.mpr ⟨p, hp, of_decide_eq_true e⟩)
theorem dp_old {d : List (κ × α)} {x : κ} (v : α) (h : x ∈ d.map (·.1)) : dp d x v = d.map (fun p => if p.1 = x then (p.1, v) else p) := by
  unfold dp
  rw [if_pos]
  obtain ⟨p, hp, e⟩ := List.mem_map.mp h
  exact List.any_eq_true.mpr ⟨p, hp, decide_eq_true e⟩
theorem dp_keys {d : List (κ × α)} {x : κ} (v : α) : (dp d x v).map (·.1) = if x ∈ d.map (·.1) then d.map (·.1) else d.map (·.1) ++ [x] := by
  by_cases h : x ∈ d.map (·.1)
  · rw [if_pos h, dp_old v h, List.map_map]
    apply List.map_congr_left
    intro p _
    by_cases e : p.1 = x <;> simp [e]
  · rw [if_neg h, dp_new v h, List.map_append]; rfl
theorem dp_nd {d : List (κ × α)} {x : κ} (v : α) (h : (d.map (·.1)).Nodup) : ((dp d x v).map (·.1)).Nodup := by
  rw [dp_keys]
  by_cases hx : x ∈ d.map (·.1)
  · rw [if_pos hx]; exact h
  · rw [if_neg hx, List.nodup_append]
    refine ⟨h, by simp, fun a ha b hb z => ?_⟩
    rw [List.mem_singleton.mp hb] at z
    exact hx (z ▸ ha)
theorem dd_keys {d : List (κ × α)} {x : κ} : (dd d x).map (·.1) = (d.map (·.1)).filter fun y => decide (y ≠ x) := by
  unfold dd
  rw [List.filter_map]
  rfl
theorem dd_nd {d : List (κ × α)} {x : κ} (h : (d.map (·.1)).Nodup) : ((dd d x).map (·.1)).Nodup := by
  rw [dd_keys]
  exact h.filter _
end
def DkR {K : PySem.W.Frag} {κ α : Type} (f : κ → L2.Key) (E : El K α) (H : Hp) : L2.Key × V → κ × α → Prop := fun p q => p.1 = f q.1 ∧ E.P H p.2 q.2
def dk {K : PySem.W.Frag} {κ α : Type} (f : κ → L2.Key) (E : El K α) (a : Addr) (d : List (κ × α)) : HA := ⟨fun H S => (∃ kvs, H a = some (.dK kvs) ∧ All2 (DkR f E H) kvs d) ∧ ∀ b, S b ↔ b = a, fun {H H' S} ⟨⟨kvs, h, x⟩, s⟩ k => ⟨⟨kvs, k a _ h (.inl ((s a).mpr rfl)), x.imp fun _ _ z => ⟨z.1, E.st z.2 k.i⟩⟩, s⟩, fun {H S c} ⟨⟨kvs, h, x⟩, s⟩ q => by
  rw [(s c).mp q]
  exact ⟨_, h, rfl⟩⟩
section
variable {K : PySem.W.Frag} {κ α : Type} {f : κ → L2.Key} {E : El K α} {L R : List HA} {a : Addr} {d : List (κ × α)} {kvs : List (L2.Key × V)} {H : Hp} {Q : VK} {φ : Hp → Prop} {v u : V} {σ : L2.St} {ta tb tc : TE}
theorem Take.dk (t : Take (dk f E a d) L R) (h : Holds L H) : ∃ kvs, H a = some (.dK kvs) ∧ All2 (DkR f E H) kvs d := by
  obtain ⟨S, S1, S2, h1, _⟩ := t.to h
  exact h1.1
theorem Holds.dk_op (h : Holds (dk f E a d :: R) H) : ∃ kvs, Holds (pt a (.dK kvs) :: R) H ∧ All2 (DkR f E H) kvs d := by
  obtain ⟨S, S1, S2, ⟨⟨kvs, h1, h2⟩, s⟩, h3⟩ := h
  exact ⟨kvs, ⟨S, S1, S2, ⟨h1, rfl, s⟩, h3⟩, h2⟩
theorem Holds.dk_mk (h : Holds (pt a (.dK kvs) :: R) H) (e : All2 (DkR f E H) kvs d) : Holds (Toy.dk f E a d :: R) H := by
  obtain ⟨S, S1, S2, ⟨h0, _, s⟩, h2⟩ := h
  exact ⟨S, S1, S2, ⟨⟨kvs, h0, e⟩, s⟩, h2⟩
theorem dkR_upd {kvs' : List (L2.Key × V)} {o : HO} (h : Holds (pt a o :: R) H) (ho : Imm o = false) {o' : HO} (e : All2 (DkR f E H) kvs' d) : All2 (DkR f E (L2.upd H a o')) kvs' d := e.imp fun _ _ z => ⟨z.1, E.st z.2 fun b ob eb ib => by
  have n : b ≠ a := by
    rintro rfl
    rw [h.pt_get] at eb
    cases eb
    rcases ib with ib | ib
    · exact ib.elim
    · rw [ho] at ib
      cases ib
  rw [upd_ne n]
  exact eb⟩
theorem Holds.dk_upd {d' : List (κ × α)} {kvs' : List (L2.Key × V)} (h : Holds (Toy.dk f E a d :: R) H) (e : All2 (DkR f E H) kvs' d') : Holds (Toy.dk f E a d' :: R) (L2.upd H a (.dK kvs')) := by
  obtain ⟨ws, h1, _⟩ := h.dk_op
  exact (h1.upd rfl).dk_mk (dkR_upd h1 rfl e)
theorem Holds.dk_new {p : Addr} (h : Holds L H) (n : H p = none) (e : All2 (DkR f E H) kvs d) : Holds (Toy.dk f E p d :: L) (L2.upd H p (.dK kvs)) := (h.new n rfl).dk_mk (e.imp fun _ _ z => ⟨z.1, E.st z.2 (keepI_new n)⟩)
theorem take_dk0 (t : Take (pt a (.dK [])) L R) : Take (Toy.dk f E a []) L R := Sub.trans t fun H S ⟨S1, S2, ⟨h, i, s⟩, h2, hd, hs⟩ => ⟨S, ⟨S1, S2, ⟨⟨[], h, .nil⟩, s⟩, h2, hd, hs⟩, fun _ q => q⟩
variable [DecidableEq κ]
theorem dkR_val (hf : ∀ x y, f x = f y → x = y) (h : All2 (DkR f E H) kvs d) (x : κ) : (∀ w, dg d x = some w → ∃ v, valV kvs (f x) = some v ∧ E.P H v w) ∧ (dg d x = none → valV kvs (f x) = none) := by
  induction h with
  | nil => exact ⟨fun w e => (by cases e), fun _ => rfl⟩
  | cons hp ht ih =>
    rename_i p q ps qs
    rw [dg_cons]
    by_cases e : q.1 = x
    · rw [if_pos e, valV_pos (by rw [hp.1, e])]
      exact ⟨fun w ew => ⟨_, rfl, by cases ew; exact hp.2⟩, fun z => (by cases z)⟩
    · rw [if_neg e, valV_neg (fun z => e (hf _ _ (hp.1.symm.trans z)))]
      exact ih
theorem dkR_any (hf : ∀ x y, f x = f y → x = y) (h : All2 (DkR f E H) kvs d) (x : κ) : (kvs.any fun kv => decide (kv.1 = f x)) = d.any fun p => decide (p.1 = x) := by
  induction h with
  | nil => rfl
  | cons hp ht ih =>
    rename_i p q ps qs
    rw [List.any_cons, List.any_cons, ih]
    congr 1
    rw [hp.1]
    by_cases e : q.1 = x
    · rw [e]; simp
    · rw [decide_eq_false e, decide_eq_false fun z => e (hf _ _ z)]
theorem dkR_put (hf : ∀ x y, f x = f y → x = y) (h : All2 (DkR f E H) kvs d) (x : κ) {w : α} (hv : E.P H v w) : All2 (DkR f E H) (putK kvs (f x) v) (dp d x w) := by
  unfold putK dp
  rw [dkR_any hf h x]
  split
  · rename_i hc
    clear hc
    induction h with
    | nil => exact .nil
    | cons hp ht ih =>
      rename_i p q ps qs
      rw [List.map_cons, List.map_cons]
      refine .cons ?_ ih
      by_cases e : q.1 = x
      · rw [if_pos e, if_pos (by rw [hp.1, e])]
        exact ⟨hp.1, hv⟩
      · rw [if_neg e, if_neg (fun z => e (hf _ _ (hp.1.symm.trans z)))]
        exact hp
  · exact h.app (.one ⟨rfl, hv⟩)
theorem dkR_drop (hf : ∀ x y, f x = f y → x = y) (h : All2 (DkR f E H) kvs d) (x : κ) : All2 (DkR f E H) (dropK kvs (f x)) (dd d x) := by
  unfold dropK dd
  induction h with
  | nil => exact .nil
  | cons hp ht ih =>
    rename_i p q ps qs
    by_cases e : q.1 = x
    · rw [List.filter_cons_of_neg (by simp [hp.1, e]), List.filter_cons_of_neg (by simp [e])]
      exact ih
    · rw [List.filter_cons_of_pos (by simpa using fun z => e (hf _ _ (hp.1.symm.trans z))), List.filter_cons_of_pos (by simpa using e)]
      exact .cons hp ih
end
abbrev fI : Int → L2.Key := Sum.inl
abbrev fS : Str → L2.Key := Sum.inr
theorem fI_inj : ∀ x y, fI x = fI y → x = y := fun _ _ h => Sum.inl.inj h
theorem fS_inj : ∀ x y, fS x = fS y → x = y := fun _ _ h => Sum.inr.inj h
def kDGet (Q : VK) (x y : V) (H : Hp) : Prop := ∃ a v, x = .ref a ∧ DGet H a y (some v) ∧ Q v H
def kDPut (φ : Hp → Prop) (x y v : V) (H : Hp) : Prop := ∃ a H4, x = .ref a ∧ DPut H a y v H4 ∧ φ H4
def kDp0 (ty : TE) (σ : L2.St) (Q : VK) (x : V) (H : Hp) : Prop := ∃ a, x = .ref a ∧ IsD H a ∧ ty σ H fun y H2 => ∃ kvs k v, H2 a = some (.dK kvs) ∧ y = kV k ∧ valV kvs k = some v ∧ Q v (L2.upd H2 a (.dK (dropK kvs k)))
def kDPop (Q : VK) (a : Addr) (y : V) (H2 : Hp) : Prop := ∃ kvs k v, H2 a = some (.dK kvs) ∧ y = kV k ∧ valV kvs k = some v ∧ Q v (L2.upd H2 a (.dK (dropK kvs k)))
def kDg2 (ty tx : TE) (σ : L2.St) (Q : VK) (x : V) (H : Hp) : Prop := ∃ a, x = .ref a ∧ IsD H a ∧ ty σ H fun y H2 => tx σ H2 fun z H3 => ∃ o, DGet H3 a y o ∧ Q (o.getD z) H3
def kDGD (Q : VK) (a : Addr) (y z : V) (H3 : Hp) : Prop := ∃ o, DGet H3 a y o ∧ Q (o.getD z) H3
def rLenDk : List V → Hp → VK → Prop := fun xs H Q => ∃ a kvs, xs = [V.ref a] ∧ H a = some (.dK kvs) ∧ Q (.int kvs.length) H
theorem call_lenDk {X : Cx} : CallR X (.builtin "len") rLenDk := call_lenD
def rListDk : List V → Hp → VK → Prop := fun xs H Q => ∃ p kvs, xs = [.ref p] ∧ H p = some (.dK kvs) ∧ ∀ q, H q = none → Q (.ref q) (L2.upd H q (.lst (kvs.map fun kv => kV kv.1)))
theorem call_listDk {X : Cx} (hc : X.calm = true := by rfl) : CallR X (.type "list") rListDk := call_list_dK hc
def rSortDk : List V → Hp → VK → Prop := fun xs H Q => ∃ (a : Addr) (kvs : List (L2.Key × V)) (ks : List Int), xs = [.ref a] ∧ Rd H a (.dK kvs) ∧ kvs.map (·.1) = ks.map Sum.inl ∧ ks.length < 64 ∧ ∀ (ys : List Int) (p : Addr), ys.Perm ks → ys.Pairwise (· ≤ ·) → H p = none → Q (.ref p) (L2.upd H p (.lst (ys.map V.int)))
theorem call_sortDk {X : Cx} (hc : X.calm = true := by rfl) : CallR X (.builtin "sorted") rSortDk := call_sortedDI hc
section
variable {K : PySem.W.Frag} {α : Type} {E : El K α} {L R : List HA} {a : Addr} {Q : VK} {φ : Hp → Prop} {v u x y : V} {σ : L2.St} {td ty tv tx : TE} {nx bk ct : L2.St → Hp → Prop} {rt : VK}
theorem e_dnew (q : ∀ p, Ent (pt p (.dK []) :: L) (Q (.ref p))) : Ent L fun H => tDNewK σ H Q := fun H h p np => q p _ (h.new np rfl)
theorem e_dget0 (q : Ent L fun H => td σ H fun x H1 => ty σ H1 fun y H2 => kDGet Q x y H2) : Ent L fun H => tDGet td ty σ H Q := q
theorem e_dput0 (q : Ent L fun H => tv σ H fun v H1 => td σ H1 fun x H2 => ty σ H2 fun y H3 => kDPut (nx σ) x y v H3) : Ent L fun H => sDPut td ty tv ⟨nx, rt, bk, ct⟩ σ H := q
theorem e_dpop0 (q : Ent L fun H => td σ H fun x H1 => kDp0 ty σ Q x H1) : Ent L fun H => tDPop1 td ty σ H Q := q
theorem e_dg20 (q : Ent L fun H => td σ H fun x H1 => kDg2 ty tx σ Q x H1) : Ent L fun H => tDGet2 td ty tx σ H Q := q
theorem c_dp0 {κ : Type} {f : κ → L2.Key} {d : List (κ × α)} (t : Take (dk f E a d) L R) (q : Ent L fun H => ty σ H fun y H2 => kDPop Q a y H2) : Ent L fun H => kDp0 ty σ Q (.ref a) H := fun H h => by
  obtain ⟨kvs, h1, _⟩ := t.dk h
  exact ⟨a, rfl, .inl ⟨kvs, .inl h1⟩, q H h⟩
theorem c_dg20 {κ : Type} {f : κ → L2.Key} {d : List (κ × α)} (t : Take (dk f E a d) L R) (q : Ent L fun H => ty σ H fun y H2 => tx σ H2 fun z H3 => kDGD Q a y z H3) : Ent L fun H => kDg2 ty tx σ Q (.ref a) H := fun H h => by
  obtain ⟨kvs, h1, _⟩ := t.dk h
  exact ⟨a, rfl, .inl ⟨kvs, .inl h1⟩, q H h⟩
theorem c_lenDk {κ : Type} {f : κ → L2.Key} {d : List (κ × α)} (t : Take (dk f E a d) L R) (q : Ent L (Q (.int d.length))) : Ent L fun H => rLenDk [.ref a] H Q := fun H h => by
  obtain ⟨kvs, h1, h2⟩ := t.dk h
  exact ⟨a, kvs, rfl, h1, by rw [h2.len]; exact q H h⟩
theorem c_dictCp {κ : Type} {f : κ → L2.Key} {d : List (κ × α)} (t : Take (dk f E a d) L R) (q : ∀ p, Ent (dk f E p d :: L) (Q (.ref p))) : Ent L fun H => rDictCp [.ref a] H Q := fun H h => by
  obtain ⟨kvs, h1, h2⟩ := t.dk h
  exact ⟨a, kvs, rfl, h1, fun p np => q p _ (h.dk_new np h2)⟩
theorem c_dgetI {d : List (Int × α)} {i : Int} {k : α → Prop} (hm : obx (dg d i) k) (t : Take (dk fI E a d) L R) (q : ∀ w, k w → ∀ v, Ent (vl E v w :: L) (Q v)) : Ent L fun H => kDGet Q (.ref a) (.int i) H := fun H h => by
  obtain ⟨w, e, hk⟩ := hm
  obtain ⟨kvs, h1, h2⟩ := t.dk h
  obtain ⟨v, e2, hp⟩ := (dkR_val fI_inj h2 i).1 w e
  refine ⟨a, v, rfl, ?_, q w hk v H (h.vl hp)⟩
  have := DGet.k (k := fI i) h1
  rw [e2] at this
  exact this
theorem c_dputI {d : List (Int × α)} {i : Int} {w : α} {k : Prop} (hm : grd (d.length ≤ 100000) k) (t : Take (dk fI E a d) L R) (hv : Is E L v w) (q : k → Ent (dk fI E a (dp d i w) :: R) φ) : Ent L fun H => kDPut φ (.ref a) (.int i) v H := fun H h => by
  obtain ⟨kvs, h1, h2⟩ := t.dk h
  refine ⟨a, _, rfl, DPut.k (k := fI i) h1 (by rw [h2.len]; exact Nat.lt_of_le_of_lt hm.1 (by decide)), q hm.2 _ ?_⟩
  exact (t.to h).dk_upd (dkR_put fI_inj h2 i (hv H h))
theorem c_inIDk {d : List (Int × α)} {i : Int} (t : Take (dk fI E a d) L R) (q : Ent L (Q (.bl (dg d i).isSome))) : Ent L fun H => rInDk (.int i) (.ref a) H Q := fun H h => by
  obtain ⟨kvs, h1, h2⟩ := t.dk h
  refine ⟨a, _, rfl, DGet.k (k := fI i) h1, ?_⟩
  have e : (valV kvs (fI i)).isSome = (dg d i).isSome := by
    have z := dkR_val fI_inj h2 i
    cases o : dg d i with
    | none => rw [z.2 o]; rfl
    | some w => obtain ⟨v, e, _⟩ := z.1 w o; rw [e]; rfl
  rw [e]
  exact q H h
theorem c_niIDk {d : List (Int × α)} {i : Int} (t : Take (dk fI E a d) L R) (q : Ent L (Q (.bl (!(dg d i).isSome)))) : Ent L fun H => rNiDk (.int i) (.ref a) H Q := fun H h => by
  obtain ⟨kvs, h1, h2⟩ := t.dk h
  refine ⟨a, _, rfl, DGet.k (k := fI i) h1, ?_⟩
  have e : (valV kvs (fI i)).isSome = (dg d i).isSome := by
    have z := dkR_val fI_inj h2 i
    cases o : dg d i with
    | none => rw [z.2 o]; rfl
    | some w => obtain ⟨v, e, _⟩ := z.1 w o; rw [e]; rfl
  rw [e]
  exact q H h
theorem c_dpopI {d : List (Int × α)} {i : Int} {k : α → Prop} (hm : obx (dg d i) k) (t : Take (dk fI E a d) L R) (q : ∀ w, k w → ∀ v, Ent (vl E v w :: dk fI E a (dd d i) :: R) (Q v)) : Ent L fun H => kDPop Q a (.int i) H := fun H h => by
  obtain ⟨w, e, hk⟩ := hm
  obtain ⟨kvs, h1, h2⟩ := t.dk h
  obtain ⟨v, e2, hp⟩ := (dkR_val fI_inj h2 i).1 w e
  refine ⟨kvs, fI i, v, h1, rfl, e2, q w hk v _ ?_⟩
  have h3 := (t.to h).dk_upd (dkR_drop fI_inj h2 i)
  refine h3.vl (E.st hp fun b ob eb ib => ?_)
  have n : b ≠ a := by
    rintro rfl
    rw [h1] at eb
    cases eb
    rcases ib with ib | ib
    · exact ib.elim
    · cases ib
  rw [upd_ne n]
  exact eb
theorem c_dgdI {d : List (Int × α)} {i : Int} {w : α} (t : Take (dk fI E a d) L R) (hv : Is E L v w) (q : ∀ u, Ent (vl E u ((dg d i).getD w) :: L) (Q u)) : Ent L fun H => kDGD Q a (.int i) v H := fun H h => by
  obtain ⟨kvs, h1, h2⟩ := t.dk h
  refine ⟨_, DGet.k (k := fI i) h1, q _ H (h.vl ?_)⟩
  have z := dkR_val fI_inj h2 i
  cases o : dg d i with
  | none => rw [z.2 o]; exact hv H h
  | some w' => obtain ⟨u, e, hp⟩ := z.1 w' o; rw [e]; exact hp
theorem c_dgetS {d : List (Str × α)} {i : Str} {k : α → Prop} (hm : obx (dg d i) k) (t : Take (dk fS E a d) L R) (q : ∀ w, k w → ∀ v, Ent (vl E v w :: L) (Q v)) : Ent L fun H => kDGet Q (.ref a) (.str i) H := fun H h => by
  obtain ⟨w, e, hk⟩ := hm
  obtain ⟨kvs, h1, h2⟩ := t.dk h
  obtain ⟨v, e2, hp⟩ := (dkR_val fS_inj h2 i).1 w e
  refine ⟨a, v, rfl, ?_, q w hk v H (h.vl hp)⟩
  have := DGet.k (k := fS i) h1
  rw [e2] at this
  exact this
theorem c_dputS {d : List (Str × α)} {i : Str} {w : α} {k : Prop} (hm : grd (d.length ≤ 100000) k) (t : Take (dk fS E a d) L R) (hv : Is E L v w) (q : k → Ent (dk fS E a (dp d i w) :: R) φ) : Ent L fun H => kDPut φ (.ref a) (.str i) v H := fun H h => by
  obtain ⟨kvs, h1, h2⟩ := t.dk h
  refine ⟨a, _, rfl, DPut.k (k := fS i) h1 (by rw [h2.len]; exact Nat.lt_of_le_of_lt hm.1 (by decide)), q hm.2 _ ?_⟩
  exact (t.to h).dk_upd (dkR_put fS_inj h2 i (hv H h))
theorem c_inSDk {d : List (Str × α)} {i : Str} (t : Take (dk fS E a d) L R) (q : Ent L (Q (.bl (dg d i).isSome))) : Ent L fun H => rInDk (.str i) (.ref a) H Q := fun H h => by
  obtain ⟨kvs, h1, h2⟩ := t.dk h
  refine ⟨a, _, rfl, DGet.k (k := fS i) h1, ?_⟩
  have e : (valV kvs (fS i)).isSome = (dg d i).isSome := by
    have z := dkR_val fS_inj h2 i
    cases o : dg d i with
    | none => rw [z.2 o]; rfl
    | some w => obtain ⟨v, e, _⟩ := z.1 w o; rw [e]; rfl
  rw [e]
  exact q H h
theorem c_niSDk {d : List (Str × α)} {i : Str} (t : Take (dk fS E a d) L R) (q : Ent L (Q (.bl (!(dg d i).isSome)))) : Ent L fun H => rNiDk (.str i) (.ref a) H Q := fun H h => by
  obtain ⟨kvs, h1, h2⟩ := t.dk h
  refine ⟨a, _, rfl, DGet.k (k := fS i) h1, ?_⟩
  have e : (valV kvs (fS i)).isSome = (dg d i).isSome := by
    have z := dkR_val fS_inj h2 i
    cases o : dg d i with
    | none => rw [z.2 o]; rfl
    | some w => obtain ⟨v, e, _⟩ := z.1 w o; rw [e]; rfl
  rw [e]
  exact q H h
theorem c_dpopS {d : List (Str × α)} {i : Str} {k : α → Prop} (hm : obx (dg d i) k) (t : Take (dk fS E a d) L R) (q : ∀ w, k w → ∀ v, Ent (vl E v w :: dk fS E a (dd d i) :: R) (Q v)) : Ent L fun H => kDPop Q a (.str i) H := fun H h => by
  obtain ⟨w, e, hk⟩ := hm
  obtain ⟨kvs, h1, h2⟩ := t.dk h
  obtain ⟨v, e2, hp⟩ := (dkR_val fS_inj h2 i).1 w e
  refine ⟨kvs, fS i, v, h1, rfl, e2, q w hk v _ ?_⟩
  have h3 := (t.to h).dk_upd (dkR_drop fS_inj h2 i)
  refine h3.vl (E.st hp fun b ob eb ib => ?_)
  have n : b ≠ a := by
    rintro rfl
    rw [h1] at eb
    cases eb
    rcases ib with ib | ib
    · exact ib.elim
    · cases ib
  rw [upd_ne n]
  exact eb
theorem c_dgdS {d : List (Str × α)} {i : Str} {w : α} (t : Take (dk fS E a d) L R) (hv : Is E L v w) (q : ∀ u, Ent (vl E u ((dg d i).getD w) :: L) (Q u)) : Ent L fun H => kDGD Q a (.str i) v H := fun H h => by
  obtain ⟨kvs, h1, h2⟩ := t.dk h
  refine ⟨_, DGet.k (k := fS i) h1, q _ H (h.vl ?_)⟩
  have z := dkR_val fS_inj h2 i
  cases o : dg d i with
  | none => rw [z.2 o]; exact hv H h
  | some w' => obtain ⟨u, e, hp⟩ := z.1 w' o; rw [e]; exact hp
theorem keysI {H : Hp} {kvs : List (L2.Key × V)} {d : List (Int × α)} (h : All2 (DkR fI E H) kvs d) : kvs.map (·.1) = (d.map (·.1)).map Sum.inl := by
  induction h with
  | nil => rfl
  | cons hp ht ih => rw [List.map_cons, List.map_cons, List.map_cons, ih, hp.1]
theorem c_listDkI {d : List (Int × α)} (t : Take (dk fI E a d) L R) (q : ∀ p, Ent (ls (kI (K := K)) p (d.map (·.1)) :: L) (Q (.ref p))) : Ent L fun H => rListDk [.ref a] H Q := fun H h => by
  obtain ⟨kvs, h1, h2⟩ := t.dk h
  refine ⟨a, kvs, rfl, h1, fun p np => q p _ ?_⟩
  have e : (kvs.map fun kv => kV kv.1) = (d.map (·.1)).map V.int := by
    rw [show (kvs.map fun kv => kV kv.1) = (kvs.map (·.1)).map kV by rw [List.map_map]; rfl, keysI h2, List.map_map]
    rfl
  rw [e]
  exact h.ls_new np (All2.map V.int fun _ _ => rfl)
theorem c_sortDkI {d : List (Int × α)} {k : Prop} (hm : grd (d.length < 64) k) (t : Take (dk fI E a d) L R) (q : k → ∀ p, Ent (ls (kI (K := K)) p (srt (d.map (·.1))) :: L) (Q (.ref p))) : Ent L fun H => rSortDk [.ref a] H Q := fun H h => by
  obtain ⟨kvs, h1, h2⟩ := t.dk h
  refine ⟨a, kvs, d.map (·.1), rfl, .inl h1, keysI h2, by rw [List.length_map]; exact hm.1, fun ys p hp hs np => q hm.2 p _ ?_⟩
  rw [srt_eq hp hs]
  exact h.ls_new np (All2.map V.int fun _ _ => rfl)
end
/-! ## a comprehension that changes one thing -/
def lcM {α β M : Type} : List α → List β → M → (α → M → (Option β → M → Prop) → Prop) → (List β → M → Prop) → Prop
  | [], acc, m, _, k => k acc m
  | x :: xs, acc, m, b, k => b x m fun o m' => lcM xs (acc ++ o.toList) m' b k
section
variable {K : PySem.W.Frag} {α β M : Type} {L R R' : List HA} {σ : L2.St} {Q : VK} {E : El K α} {l ad : Addr}
theorem c_lcLsM {xs : List α} {m0 : M} {bd : α → M → (Option β → M → Prop) → Prop} {k : List β → M → Prop} {g : TG} {tt : TT} {te : TE} {vs : List Nat} (A : Addr → M → HA) (E' : El K β) (hm : grd (xs.length ≤ 100000) (lcM xs [] m0 bd k)) (t0 : Take (A ad m0) L R) (t : Take (ls E l xs) R R')
    (step : ∀ x m (nxt : Option β → M → Prop), bd x m nxt → ∀ v D ys (r : VK) (s : Hp → Prop), (∀ v' y m', nxt (some y) m' → Ent (vl E' v' y :: ls E' D ys :: A ad m' :: R) (r v')) → (∀ m', nxt none m' → Ent (ls E' D ys :: A ad m' :: R) s) → Ent (vl E v x :: ls E' D ys :: A ad m :: R) fun H => g v (wipe σ vs) H fun σ2 H2 => wipe σ2 vs = wipe σ vs ∧ tt σ2 H2 fun b H3 => if b = true then te σ2 H3 r else s H3)
    (q : ∀ ys m', k ys m' → ∀ D, Ent (ls E' D ys :: A ad m' :: R) (Q (.ref D))) : Ent L fun H => kLc K g tt te vs σ Q (.ref l) H := fun H h => by
  obtain ⟨hz, hm⟩ := hm
  have h := t0.to h
  have ht : ∀ {m : M} {H : Hp}, Holds (A ad m :: R) H → ∃ vs, H l = some (.lst vs) ∧ All2 (E.P H) vs xs := fun p => t.ls (Sub.to (Sub.drop Sub.refl) p)
  obtain ⟨ws, h1, h2⟩ := ht h
  refine ⟨l, rfl, ⟨ws, SqL.of h1⟩, fun D nD => ?_⟩
  refine lc_it (walk_ls (E := E) l xs) (fun i H' => ∃ ys m, lcM (xs.drop i) ys m bd k ∧ i ≤ xs.length ∧ ys.length ≤ i ∧ Holds (ls E' D ys :: A ad m :: R) H') ⟨[], m0, hm, Nat.zero_le _, Nat.le_refl _, h.ls_new nD .nil⟩ (fun i H' _ ⟨ys, m, _, _, _, p⟩ => ht (Sub.to (Sub.drop Sub.refl) p)) (fun i v H' H'' hi ⟨ys, m, hf, _, hy, p⟩ ⟨e, x, hx, hp⟩ => ?_) (fun H' ⟨ys, m, hf, _, _, p⟩ => q ys m (by rw [List.drop_length] at hf; exact hf) D H' p)
  subst e
  have ed : xs.drop i = x :: xs.drop (i + 1) := by
    rw [List.drop_eq_getElem_cons hi]
    congr 1
    exact Option.some.inj ((List.getElem?_eq_getElem hi).symm.trans hx)
  rw [ed, lcM] at hf
  refine step x m _ hf v D ys _ _ (fun v' y m' hy' H4 z => ?_) (fun m' hn H3 z => ?_) _ (p.vl hp)
  · obtain ⟨ac, z1, z2⟩ := Holds.ls_op (Sub.to (Sub.drop Sub.refl) z)
    have z3 : E'.P H4 v' y := Take.vl take_here z
    refine ⟨ac, z1.pt_get, ?_, ys ++ [y], m', hy', hi, by simp; omega, Holds.ls_upd (Sub.to (Sub.drop Sub.refl) z) (z2.app (.one z3))⟩
    rw [z2.len]
    exact Nat.lt_of_le_of_lt (by omega : ys.length ≤ 100000) (by decide : 100000 < sizeLine)
  · exact ⟨ys, m', by simpa using hn, hi, by omega, z⟩
end
end Toy
namespace Toy
open PySem L2 PySem.Spec PyProof.Rows
/-! ## x != y by x's own __eq__, there being no __ne__ -/
section
open PySem.SeqAt Builtin
variable {M : Model} {prog : Program} {w : World} {A : Around} {E : Value → Shared → Prop} {s : Shared} {K : PySem.W.Frag} {x C f : Addr} {ox : Obj} {od : Option Obj} {b tb : Value} {h₀ : Heap} {L : Addr} {m : Str → Option Value}
theorem ifBound_objNe {args : List Value} {Q : Option Value → Shared → Prop} (X : K.In s.heap) (I : PySem.W.InstAt s.heap x ox C od) (hs : PySem.W.findIn K (.ref C) "__ne__" = some (some (.builtin "object.__ne__")))
    (h : wpAny M A (call (.builtin "object.__ne__") (.ref x :: args)) (fun v => Q (some v)) E s) : wpAny M A (callSpecialIfBound? (.ref x) "__ne__" args) Q E s := by
  simp only [callSpecialIfBound?, bindSpecialIfBound?]
  refine wpAny_holding (wpAny_bind (wpAny_bind (wpAny_bind (I.type.here ((PySem.W.looks_findIn X hs).here ?_)))))
  refine wpAny_bind (wpAny_askSetting (wpAny_ite ?_))
  have fin : wpAny M A (call (.builtin "object.__ne__") ([.ref x] ++ args) >>= fun v => pure (some v)) Q E s := wpAny_bind (wpAny_mono h (fun v s' h' => wpAny_pure h') fun _ _ h' => h')
  split
  · exact wpAny_bind (wpAny_of_eq (F.cmp_object.ne.bind _) (wpAny_pure (by exact fin)))
  · exact wpAny_tryCatch (wpAny_bind (wpAny_of_eq (F.cmp_object.ne.bind _) (wpAny_pure (by exact fin))))
theorem entry_ne {Q : Fin → Shared → Prop} (hu : A.units < cLine) (X : K.In s.heap) (I : PySem.W.InstAt s.heap x ox C od) (he : PySem.W.findIn K (.ref C) "__eq__" = some (some (.ref f))) (hf : PySem.W.isFn K (.ref f) = true)
    (h : wpAny (model prog w) A (call (.ref f) [.ref x, b]) (fun v s' => ∃ c, v = .bool c ∧ Q (.done (.ret (.bool (!c)))) s') E s) : wpAny (model prog w) A (Builtin.«object.__ne__» ⟨[.ref x, b], []⟩) Q E s := by
  unfold Builtin.«object.__ne__»
  repeat (first
    | with_reducible refine wpAny_cRoomFor hu ?_
    | (refine wpAny_bind (m := callSpecialIfBound? (.ref x) (Str.ofString "__eq__") [b])
        (PySem.W.ifBound_K X I he hf (wpAny_mono h (fun r s' hr => by
          obtain ⟨c, rfl, hq⟩ := hr
          repeat (first | exact hq | exact wpAny_pure hq | exact wpAny_truthy_bool hq | (refine wpAny_bind (m := truthy (.bool _)) (wpAny_truthy_bool ?_)) | wp_step)) fun _ _ e => e)))
    | wp_step)
theorem call_objNe {Q : Value → Shared → Prop} (hu : A.units + 1 < cLine) (X : K.In s.heap) (I : PySem.W.InstAt s.heap x ox C od) (hm : PySem.W.mroIn K C (.type "object") = some true) (he : PySem.W.findIn K (.ref C) "__eq__" = some (some (.ref f))) (hf : PySem.W.isFn K (.ref f) = true)
    (h : wpAny (model prog w) A.in1 (call (.ref f) [.ref x, b]) (fun v s' => ∃ c, v = .bool c ∧ Q (.bool (!c)) s') E s) : wpAny (model prog w) A (call (.builtin "object.__ne__") [.ref x, b]) Q E s :=
  wpAny_call (codeAny_call_builtin F.cmp_object.ne.plain F.cmpEntry_ne (PySem.W.check_slot F.cmpKind_ne F.cmpSplit_ne (I.type.andThen (PySem.W.looks_mroIn X hm)) (F.cmpArgs_ne _ _) (entry_ne (A := A.in1) hu X I he hf (wpAny_mono h (fun v s' ⟨c, e, q⟩ => ⟨c, e, q⟩) fun _ _ e => e))))
theorem cmpNe_K {Q : Value → Shared → Prop} (hu : A.units + 1 < cLine) (X : K.In s.heap) (I : PySem.W.InstAt s.heap x ox C od) (hb : PySem.W.Looks (model prog w) s.heap (typeOf b) tb) (hn : PySem.W.notFirst K C tb = true)
    (hs : PySem.W.findIn K (.ref C) "__ne__" = some (some (.builtin "object.__ne__"))) (hm : PySem.W.mroIn K C (.type "object") = some true) (he : PySem.W.findIn K (.ref C) "__eq__" = some (some (.ref f))) (hf : PySem.W.isFn K (.ref f) = true)
    (h : wpAny (model prog w) A.in1 (call (.ref f) [.ref x, b]) (fun v s' => ∃ c, v = .bool c ∧ Q (.bool (!c)) s') E s) : wpAny (model prog w) A (richCompare .NotEq (.ref x) b) Q E s := by
  have one : wpAny (model prog w) A (tryCompare (.ref x) (cmpInfo .NotEq).2.1 b) (fun r s' => ∃ v, r = some v ∧ Q v s') E s := by
    unfold tryCompare
    refine wpAny_bind (ifBound_objNe X I hs (call_objNe hu X I hm he hf (wpAny_mono h (fun v s' hv => ?_) fun _ _ e => e)))
    obtain ⟨c, e, hq⟩ := hv
    exact ⟨c, e, wpAny_pure ⟨_, rfl, hq⟩⟩
  unfold richCompare
  simp only [oneThing_ref]
  refine wpAny_holding (wpAny_bind (wpAny_cRoomFor (Nat.lt_of_succ_lt hu) ?_))
  refine wpAny_bind (I.type.here (wpAny_bind (hb.here ?_)))
  split
  · rename_i q
    have e : PySem.W.subIn K tb (.ref C) = some false := by
      rcases Bool.or_eq_true_iff.mp hn with e | e
      · rw [beq_iff_eq.mp e] at q; simp at q
      · exact beq_iff_eq.mp e
    refine wpAny_bind ((PySem.W.looks_subIn X e).here ?_)
    simp only [Bool.false_eq_true, if_false]
    refine wpAny_bind (wpAny_mono one (fun r s' z => ?_) fun _ _ e => e)
    obtain ⟨v, rfl, hq⟩ := z
    exact wpAny_pure hq
  · refine wpAny_bind (wpAny_pure ?_)
    simp only [Bool.false_eq_true, if_false]
    refine wpAny_bind (wpAny_mono one (fun r s' z => ?_) fun _ _ e => e)
    obtain ⟨v, rfl, hq⟩ := z
    exact wpAny_pure hq
end
structure NeC (K : PySem.W.Frag) (C : Addr) : Prop where
  at_ : PySem.W.findIn K (.ref C) "__ne__" = some (some (.builtin "object.__ne__"))
  mro : PySem.W.mroIn K C (.type "object") = some true
def rOwnNe (K : PySem.W.Frag) (C : Addr) (sp : Sp) (E : XK) : R2 := fun x y H Q => ∃ (a dx : Addr) (fs : List (Str × V)) (t : Value), x = .ref a ∧ H a = some (.ins C dx fs) ∧ TyX K H y t ∧ PySem.W.notFirst K C t = true ∧ sp [x, y] H (fun v H' => ∃ b, v = .bl b ∧ Q (.bl (!b)) H') E
theorem op_ownNe {X : Cx} {CX : CXT} {n : Nat} {C f : Addr} {fd : FuncData} {ps : List Str} {sp : Sp} {E : XK} (F : FnOk X.prog X.w X.K X.mg X.base CX n f fd ps sp) (q : EqC X.K C f) (ne : NeC X.K C) (hr : Room (n + 1) X.A) (hb : Binds X.K fd ps []) (hx : Passes CX X E) : OpR X (compareOp .NotEq) (rOwnNe X.K C sp E) := by
  intro pins s σ H x y v u Q I rx ry h
  obtain ⟨a, dx, fs, t, rfl, ha, ty, hn, hsp⟩ := h
  show wpAny (model X.prog X.w) X.A (richCompare .NotEq v u) (EP X pins σ Q) X.xe s
  obtain rfl : v = Value.ref a := rx
  obtain ⟨mA, J, _⟩ := ins_get I.hok ha
  obtain ⟨od, J, _⟩ := J.look
  obtain ⟨P, Z, p, _⟩ := kit_of I ry ty
  refine cmpNe_K (tb := t) hr.units1 I.kIn J (Z.ty _ _ I.kIn p) hn ne.at_ ne.mro q.at_ q.fn ?_
  have hl := F.len _ _ _ _ hsp
  have r2 : Vals [V.ref a, y] [Value.ref a, u] := .cons rfl (.cons ry .nil)
  refine wpAny_call (codeAny_mono (F.run X.A.in1 X.stack s H ⟨[.ref a, u], []⟩ [.ref a, u] [.ref a, y] _ E hr.in1 I.env0.in1 (by
    have h2 := hb s [.ref a, u] I.kIn (by simpa using hl)
    simpa using h2) r2 hsp) fun r s' hq => ?_)
  cases r with
  | error e => exact hx pins σ H s e s' I hq
  | ok fl =>
    cases fl with
    | ret w =>
      obtain ⟨z, H', I', rz, ⟨b, ez, q⟩⟩ := I.after hq
      subst ez
      cases rz
      exact ⟨b, rfl, .bl (!b), H', I', rfl, q⟩
    | next => exact False.elim hq
    | brk => exact False.elim hq
    | cont => exact False.elim hq
section
variable {K : PySem.W.Frag} {L : List HA} {Q : VK} {a C : Addr} {y : V} {α : Type} {E : El K α} {l : Addr} {xs : List α} {R : List HA}
theorem e_ownNe {sp : Sp} {E : XK} {t : Value} (h : ∀ H, Holds L H → ∃ dx fs, H a = some (.ins C dx fs)) (ht : ∀ H, Holds L H → TyX K H y t) (hn : PySem.W.notFirst K C t = true) (q : Ent L fun H => sp [.ref a, y] H (fun v H' => ∃ b, v = .bl b ∧ Q (.bl (!b)) H') E) : Ent L fun H => rOwnNe K C sp E (.ref a) y H Q := fun H k => by
  obtain ⟨dx, fs, e⟩ := h H k
  exact ⟨a, dx, fs, t, rfl, e, ht H k, hn, q H k⟩
theorem ty_ls (t : Take (ls E l xs) L R) : ∀ H, Holds L H → TyX K H (.ref l) (.type "list") := fun H h => by
  obtain ⟨vs, h1, _⟩ := t.ls h
  exact ty_sqL (SqL.of h1)
end
end Toy
namespace Toy
open PySem L2 PySem.Spec PyProof.Rows
/-! ## xs[:] = ys -/
section
variable {prog : Program} {w : World} {A : Around} {E : Value → Shared → Prop} {s : Shared}
theorem bounds_all {n : Nat} : sliceBounds none none none n = (0, (n : Int), 1) := by
  simp [sliceBounds]
theorem setItem_all {l b sl : Addr} {items new : Array Value} {n n2 : Nat} {Q : Unit → Shared → Prop}
    (e : s.heap.get? l = some { cls := .type "list", data := .seq items n }) (e2 : s.heap.get? b = some { cls := .type "list", data := .seq new n2 }) (hne : l ≠ b)
    (hs : s.heap.IsSliceOf sl .none .none .none)
    (hsz : items.size + new.size ≤ sizeLine) (h : Q () { s with heap := s.heap.update l (Obj.mapSeq fun xs => xs.extract 0 0 ++ new ++ xs.extract items.size xs.size) }) :
    wpAny (model prog w) A (setItem (.ref l) (.ref sl) (.ref b)) Q E s := by
  have hl : s.heap.IsList l items := PySem.IsL.isList e
  have hb : s.heap.IsList b new := PySem.IsL.isList e2
  obtain ⟨os, hos, hcs, hds⟩ := id hs
  have hTs : s.TypeIs (.ref sl) "slice" := ⟨os, hos, hcs⟩
  have hstep : ¬ ((rawPart none == rawInt 0) = true) := Bool.false_ne_true
  have hsame : Builtin.List.listSameRef (.ref l) (.ref b) = false := by
    unfold Builtin.List.listSameRef
    exact beq_eq_false_iff_ne.mpr hne
  have hmax : (max (0 : Int) (items.size : Int)).toNat = items.size := by omega
  have hz' : ((fun xs : Array Value => xs.extract 0 0 ++ new ++ xs.extract items.size xs.size) items).size ≤ sizeLine + 1 := by
    simp only [Array.size_append, Array.size_extract]
    omega
  unfold setItem
  try with_reducible refine wpAny_holding ?_
  first | refine wpAny_bind (wpAny_pure ?_) | skip
  refine wpAny_bind (wpAny_sequenceKey hl.typeIs (by decide) ?_)
  refine wpAny_bind (wpAny_callSpecial?_slot (name := Str.ofString "__setitem__") hl.typeIs slot_list_setitem
    (wpAny_call_entry slot_list_setitem hl.typeIs entry_list_setitem ?_ (args_list_setitem _ _ _)))
  show wpAny _ _ (Builtin.List.listSubscript? (.ref sl) >>= _) _ _ s
  refine wpAny_bind ?_
  unfold Builtin.List.listSubscript?
  refine wpAny_bind (wpAny_specialOf hTs slice_no_index ?_)
  simp only [Option.isNone_none, if_true]
  refine wpAny_pure ?_
  show wpAny _ _ (typeOf (.ref sl) >>= _) _ _ s
  refine wpAny_bind (wpAny_typeOf hTs ?_)
  first
    | rw [if_neg (by decide)]
    | refine PySem.W.KFB.if_not (by decide) ?_
  rw [listSliceParts_eq]
  refine wpAny_bind (wpAny_bind (wpAny_field hos hds (x := .none) rfl (wpAny_bind (wpAny_listPart .none ?_))))
  rw [if_neg hstep]
  refine wpAny_bind (wpAny_field hos hds (x := .none) rfl (wpAny_bind (wpAny_listPart .none ?_)))
  refine wpAny_bind (wpAny_field hos hds (x := .none) rfl (wpAny_bind (wpAny_listPart .none (wpAny_pure ?_))))
  first
    | simp only [hsame, Bool.false_eq_true, if_false]
    | refine PySem.W.KFB.if_not hsame ?_
    | (dsimp only
       rw [if_neg (by rw [hsame]; exact Bool.false_ne_true)])
  refine wpAny_bind (m := Builtin.List.listAllItems (.ref b) "must assign iterable to extended slice") ?_
  unfold Builtin.List.listAllItems
  refine wpAny_bind (wpAny_typeOf hb.typeIs ?_)
  first
    | refine PySem.W.KFB.if_so (by decide) ?_
    | rw [if_pos (by decide)]
    | simp only [beq_self_eq_true, Bool.true_or, if_true]
  unfold Builtin.List.listItems
  refine wpAny_bind (wpAny_seqItems e2 rfl (wpAny_pure ?_))
  refine wpAny_bind (wpAny_bind (wpAny_seqItems e rfl (wpAny_pure ?_)))
  refine wpAny_bind (wpAny_of_eq ((sliceIndices_raw none none none items.size (by simp)).trans (congrArg (pure : Int × Int × Int → Sem (Int × Int × Int)) bounds_all)) ?_)
  show wpAny _ _ (if ((1 : Int) == 1) = true then _ else _) _ _ s
  rw [if_pos (by decide)]
  refine wpAny_bind (wpAny_rule ?_)
  first
    | simp only [notLongL hsz, Bool.false_eq_true, if_false]
    | refine PySem.W.KFB.if_not (notLongL hsz) ?_
  first | refine wpAny_bind (wpAny_pure ?_) | skip
  show wpAny _ _ (updateSeq l (fun xs => xs.extract 0 ((0 : Int)).toNat ++ new ++ xs.extract (max (0 : Int) (items.size : Int)).toNat xs.size) >>= _) _ _ s
  rw [hmax]
  refine wpAny_bind (wpAny_updateSeq (hz := Nat.le_trans (Nat.le_add_right _ _) hsz) (_hz' := hz') e rfl ?_)
  refine wpAny_bind (wpAny_letGo ?_)
  first
    | exact wpAny_bind (wpAny_pure (wpAny_pure ⟨.none, rfl, wpAny_pure h⟩))
    | exact wpAny_pure ⟨.none, rfl, wpAny_pure h⟩
end
section
variable {X : Cx}
theorem set_all {pins : List (Addr × Obj)} {s : Shared} {σ : L2.St} {H : Hp} {l b sl : Addr} {xs ys : List V} {Q : Unit → Shared → Prop} (I : Inv X pins σ H s)
    (hH : H l = some (.lst xs)) (hB : H b = some (.lst ys)) (hne : l ≠ b) (hs : s.heap.IsSliceOf sl .none .none .none)
    (hz : xs.length + ys.length ≤ sizeLine) (h : ∀ s', Inv X pins σ (upd H l (.lst ys)) s' → Q () s') :
    wpAny (model X.prog X.w) X.A (setItem (.ref l) (.ref sl) (.ref b)) Q X.xe s := by
  obtain ⟨z, its, n, r, hl, e⟩ := I.lstM hH
  obtain ⟨z2, its2, n2, r2, hl2, e2⟩ := I.lstM hB
  refine setItem_all e e2 hne hs (by rw [List.size_toArray, List.size_toArray]; omega) (h _ ?_)
  refine I.lset (its' := its2) (t' := s.toks) hH e ?_ r2 (by omega)
  have q := splice_eq its its2 0 its.length
  simpa using q
def rAllL : V → V → Hp → (Hp → Prop) → Prop := fun o v H Q => ∃ l b xs ys, o = .ref l ∧ v = .ref b ∧ H l = some (.lst xs) ∧ H b = some (.lst ys) ∧ l ≠ b ∧ xs.length + ys.length ≤ sizeLine ∧ Q (upd H l (.lst ys))
def gAll (to : TE) : TG := fun v σ H Q => to σ H fun o H1 => rAllL o v H1 fun H2 => Q σ H2
theorem pg_all {o : Expr} {to : TE} {pos p2 : Pos} (ho : PE X o to)
    (ha : ∀ v, assign (.Subscript o (.Slice none none none p2) pos) X.env v = (do
      let ov ← holding [v] (eval o X.env)
      let iv ← holding [v, ov] (eval (.Slice none none none p2) X.env)
      standAt pos
      holding [v, ov, iv] (setItem ov iv v)
      release [iv, v, ov] []) := by intro _; rfl) : PG X (.Subscript o (.Slice none none none p2) pos) (gAll to) := by
  refine ⟨fun pins s σ H v u Q I r h => ?_⟩
  rw [ha]
  refine wpAny_bind (wpAny_holding (thn (ho.run pins s σ H _ I h) fun ov s1 ⟨x, H1, I1, r1, q1⟩ => ?_))
  refine wpAny_bind (wpAny_holding (wpAny_Slice ?_))
  rw [evalPart_none]
  refine wpAny_pure ?_
  refine wpAny_pure ?_
  refine wpAny_pure ?_
  have I4 : Inv X pins σ H1 { s1 with heap := s1.heap.push { cls := .type "slice", data := .fields #[.none, .none, .none] } } := I1.kept (t' := s1.toks) fun b ob q => Heap.get?_push_of_some _ q
  obtain ⟨l, b, xs, ys, rfl, rfl, hl, hb, hne, hz, q⟩ := q1
  cases r1
  cases r
  refine wpAny_bind (wpAny_standAt (wpAny_bind (wpAny_holding (set_all I4 hl hb hne (Heap.IsSliceOf.new ..) hz fun s' I5 => ?_))))
  exact wpAny_release ⟨σ, _, I5, q⟩
end
section
variable {K : PySem.W.Frag} {L R R' : List HA} {α : Type} {E : El K α} {l b : Addr} {xs ys : List α} {φ : Hp → Prop} {σ : L2.St}
theorem e_gall {to : TE} {v : V} {Q : L2.St → Hp → Prop} (q : Ent L fun H => to σ H fun o H1 => rAllL o v H1 fun H2 => Q σ H2) : Ent L fun H => gAll to v σ H Q := q
theorem c_all2 {k : Prop} (hm : grd (xs.length + ys.length ≤ 200000) k) (t : Take (ls E l xs) L R) (g : Take (ls E b ys) R R') (q : k → Ent (ls E l ys :: R') φ) : Ent L fun H => rAllL (.ref l) (.ref b) H φ := fun H h => by
  have h1 := (Sub.take t g).to h
  obtain ⟨vs, e1, a1⟩ := t.ls h
  obtain ⟨us, e2, a2⟩ := g.ls (Sub.to (Sub.drop Sub.refl) (t.to h))
  have hne : l ≠ b := by
    obtain ⟨S, S1, S2, ⟨_, s1⟩, ⟨S3, S4, ⟨_, s3⟩, _, _, hs3⟩, hd, hs⟩ := h1
    rintro rfl
    exact hd l ((s1 l).mpr rfl) ((hs3 l).mpr (.inl ((s3 l).mpr rfl)))
  refine ⟨l, b, vs, us, rfl, rfl, e1, e2, hne, by rw [a1.len, a2.len]; exact Nat.le_trans hm.1 (by decide), q hm.2 _ ?_⟩
  exact Sub.to (Sub.cons (Sub.drop Sub.refl)) ((h1.ls_upd a2))
end
end Toy
namespace Toy
open PySem L2 PySem.Spec PyProof.Rows
/-! ## set(xs) of a list of whole numbers, sorted of it -/
section
variable {P : Program} {w : World} {A : Around} {E : Value → Shared → Prop} {s : Shared}
set_option maxHeartbeats 3200000 in
theorem call_setL {l : Addr} {items : Array Value} (ns : List Int) {Q : Value → Shared → Prop} (hh : A.handled = none) (hl : s.heap.IsList l items) (hit : IntsAre items.toList ns) (hb : ns.length + 1 < scanBound)
    (h : ∀ (h' : Heap) (tk c : Nat), SetR w h' s.heap.objs.size (fun j => decide (j ∈ ns)) c → c ≤ ns.length → (∀ b o, s.heap.get? b = some o → h'.get? b = some o) → Q (.ref s.heap.objs.size) { s with heap := h', toks := tk }) :
    wpAny (model P w) A (call (.type "set") [.ref l]) Q E s := by
  have hisz : items.size = ns.length := by
    have q := IntsAre.length hit
    rw [Array.length_toList] at q
    exact q
  obtain ⟨c, tl, hmro⟩ := F.called_set.mro
  have hmade := F.called_set.made
  have hsub := F.called_set.sub
  refine wpAny_call (codeAny_of_tree ?_)
  show wpAny _ _ (callAny (.type "set") _) _ _ _
  refine wpAny_pure ⟨Code.quiet_builtin _ (by decide +kernel), codeAny_builtin F.entry_type_call ?_⟩
  rw [Around.under_plain (weight_type_call_type "set" [.ref l] []) rfl]
  have h1 := F.called_set.notType
  have h2 := F.called_set.canCreate
  have hct := F.typeCall_set_1 (.ref l)
  repeat (any_goals (first | assumption | wp_step))
  generalize hO : ({ cls := .type "set", dict := none, data := .set #[] 0 (.fresh 0 0 (!w.params.followText "set-order")) } : Obj) = ob
  refine codeAny_mono (code_set_led1 (.ref l) (E := E) (Q₁ := fun obj s₁ => obj = .ref s.heap.objs.size ∧ s₁ = { s with heap := s.heap.push ob }) (by rw [hO]; exact ⟨rfl, rfl⟩)) fun r s₁ hr => ?_
  match r, hr with
  | .error e, hr => exact hr
  | .ok .next, hr => exact hr.elim
  | .ok .brk, hr => exact hr.elim
  | .ok .cont, hr => exact hr.elim
  | .ok (.ret obj), hr =>
    obtain ⟨rfl, rfl⟩ := hr
    have hS : (s.heap.push ob).get? s.heap.objs.size = some ob := Heap.get?_push_size _ (by rw [← hO]; rfl)
    have hT : Shared.TypeIs { s with heap := s.heap.push ob } (.ref s.heap.objs.size) "set" := ⟨_, hS, by rw [← hO]⟩
    have hli := F.called_set.init.lookup
    have hbi := F.called_set.init.bind (.ref s.heap.objs.size)
    repeat (any_goals (first | assumption | wp_step))
    refine codeAny_mono (codeAny_call_builtin (R := wants (fun r s₂ => r = .none ∧ ∃ h' tk c, s₂ = { s with heap := h', toks := tk } ∧ SetR w h' s.heap.objs.size (fun j => decide (j ∈ ns)) c ∧ c ≤ ns.length ∧
        (∀ b o, s.heap.get? b = some o → h'.get? b = some o)) E) F.called_set.init.plain F.entry_set_init (check_set_init_1 hT ?_)) fun r₂ s₂ hr₂ => ?_
    · obtain ⟨⟨ocls, odict, odata, oslots⟩, hol, hcl, nl, hdl⟩ := hl
      simp only at hcl hdl
      subst hcl; subst hdl
      have hlS : l < s.heap.objs.size := Heap.lt_size hol
      have hz1 : (s.heap.push ob).objs.size = s.heap.objs.size + 1 := Heap.size_push ..
      have hl1 : (s.heap.push ob).IsList l items := ⟨_, Heap.get?_push_of_some _ hol, rfl, nl, rfl⟩
      have hsls := F.sub_list_set
      have hslf := F.sub_list_frozenset
      have hne : (Value.type "list" == Value.type "dict") = false := by decide
      have hol' := Heap.get?_push_of_some ob hol
      subst hO
      unfold Builtin.«set.__init__» noKeywords Builtin.Frozenset.updateFrom
      generalize hPI : pyIter = PI
      wp_walk
      subst hPI
      refine wpAny_pyIter_list hl1 ?_
      refine wpAny_bind (wpAny_runValue ?_)
      have hh3 : A.in1.in1.in1.handled = none := by simp [hh]
      have hval : ∀ (i : Nat) (v : Value), items[i]? = some v → ∃ k t, ns[i]? = some k ∧ v = .int k t := fun i v hv => by
        have hi : i < ns.length := by rw [← hisz]; exact (Array.getElem?_eq_some_iff.mp hv).1
        obtain ⟨t, e⟩ := PyProof.Rows.IntsAre.int_at hit i v (by rw [Array.getElem?_toList]; exact hv)
        refine ⟨ns[i], t, List.getElem?_eq_getElem hi, ?_⟩
        rw [e, List.getD_eq_getElem?_getD, List.getElem?_eq_getElem hi] <;> rfl
      refine set_update_ints ((Walks.list hh3 _ l (by rw [Heap.size_push]; exact Nat.ne_of_lt (Nat.lt_succ_of_lt hlS)) items).toS) s.heap.objs.size
        (by rw [Heap.size_push]; simp only [List.mem_cons, List.not_mem_nil, or_false, not_or]; exact ⟨Nat.ne_of_lt (Nat.lt_succ_self _), Nat.ne_of_gt hlS⟩) ns hisz hb hval (items.size - 0) 0 _ (by omega) (Nat.zero_le _)
        ⟨⟨_, Heap.get?_push_size _ rfl, rfl, rfl⟩, (hl1.push _)⟩ ⟨0, Nat.le_refl 0, setR_new_at (Heap.get?_push_of_some _ hS)⟩ fun s' c' hm hc' hS' => ?_
      obtain ⟨h', g2, d', tk', os'⟩ := s'
      have eg : g2 = s.gens := hm.gens
      have ed : d' = s.drawn := hm.drawn
      have eo : os' = s.os := hm.os
      subst eg; subst ed; subst eo
      show wpAny _ _ _ _ _ _
      refine wpAny_pure ?_
      show wpAny _ _ (ret Value.none) _ _ _
      rw [hisz] at hc'
      refine wpAny_pure ⟨rfl, h', tk', c', rfl, hS', hc', fun b o e => ?_⟩
      have hb0 : b < s.heap.objs.size := Heap.lt_size e
      exact hm.heap b o (by rw [Heap.size_push]; simp only [List.mem_cons, List.not_mem_nil, or_false, not_or]; exact ⟨Nat.ne_of_lt hb0, Nat.ne_of_lt (Nat.lt_succ_of_lt hb0)⟩) (Heap.get?_push_of_some _ (Heap.get?_push_of_some _ e))
    · match r₂, hr₂ with
      | .error e, hr₂ => exact hr₂
      | .ok .next, hr₂ => exact hr₂.elim
      | .ok .brk, hr₂ => exact hr₂.elim
      | .ok .cont, hr₂ => exact hr₂.elim
      | .ok (.ret r), hr₂ =>
        obtain ⟨rfl, h', tk, c', rfl, hS', hc', hk'⟩ := hr₂
        repeat (any_goals (first | assumption | wp_step))
        exact h _ _ _ hS' hc' hk'
end
section
variable {X : Cx} {w : World} {K : PySem.W.Frag}
def rSetI (w : World) (K : PySem.W.Frag) : List V → Hp → VK → Prop := fun xs H Q => ∃ (l : Addr) (ns : List Int), xs = [V.ref l] ∧ SqL K H l (ns.map V.int) ∧ ns.length + 1 < scanBound ∧
  ∀ (p : Addr) (c : Nat), H p = none → c ≤ ns.length → Q (.ref p) (upd H p (SetO w p (fun j => decide (j ∈ ns)) c))
theorem cr_setI (hc : X.calm = true := by rfl) (hw : X.w = w := by rfl) (hK : X.K = K := by rfl) : CallR X (.type "set") (rSetI w K) := by
  subst hw hK
  intro pins s σ H xs us Q I r h
  obtain ⟨l, ns, rfl, hq, hb, q⟩ := h
  rw [Vals.ref1 r]
  obtain ⟨its, rv, pl, hz⟩ := I.list hq
  refine call_setL ns (I.ok.hd hc) pl.isList (by simpa using rv.ints) hb fun h' tk c hS hcn hk => ?_
  exact ⟨.ref _, upd H s.heap.objs.size (SetO X.w s.heap.objs.size (fun j => decide (j ∈ ns)) c), I.laid (t' := tk) hk (Nat.le_refl _) (setO_new hS), rfl, q _ c (I.hok.fresh (Nat.le_refl _)) hcn⟩
theorem cr_sortSet (hc : X.calm = true := by rfl) (hw : X.w = w := by rfl) : CallR X (.builtin "sorted") (rSortedSet w) := by
  subst hw
  exact cr_sortedSet hc
/-! ## d != {} -/
def rNeDk0 : R2 := fun x y H Q => ∃ a b ks, x = .ref a ∧ y = .ref b ∧ H a = some (.dK ks) ∧ H b = some (.dK []) ∧ Q (.bl (!ks.isEmpty)) H
theorem op_neDk0 (hu : X.A.units < cLine) : OpR X (compareOp .NotEq) rNeDk0 := by
  intro pins s σ H x y v u Q I rx ry h
  obtain ⟨a, b, ks, rfl, rfl, ea, eb, q⟩ := h
  obtain rfl : v = Value.ref a := rx
  obtain rfl : u = Value.ref b := ry
  obtain ⟨_, ya, va, ra, da⟩ := (show ObjOk X.prog X.w H s.heap a (.dK ks) from I.hok a _ ea)
  obtain ⟨_, yb, vb, rb, db⟩ := (show ObjOk X.prog X.w H s.heap b (.dK []) from I.hok b _ eb)
  have lb : vb.length = 0 := rb.length.symm
  have la := ra.length
  refine PySem.W.keq_ne (knd := mixKind X.prog X.w) (r := true) ya yb da db hu (fun e => ?_) (fin_bl I q ?_)
  · obtain rfl : va = [] := List.length_eq_zero_iff.mp (by omega)
    exact .nil
  · cases ks with
    | nil => have : va.length = 0 := la.symm; simp [this, lb]
    | cons k ks => have : va.length = ks.length + 1 := la.symm; simp [this, lb]
def rMinDk : List V → Hp → VK → Prop := rMinK
theorem cr_minDk (hc : X.calm = true := by rfl) : CallR X (.builtin "min") rMinDk := cr_minK hc
end
/-! ## the plain words -/
def ddp : List Int → List Int
  | [] => []
  | x :: xs => if x ∈ xs then ddp xs else x :: ddp xs
def sst (ns : List Int) : List Int := srt (ddp ns)
theorem mem_ddp {x : Int} : ∀ {ns : List Int}, x ∈ ddp ns ↔ x ∈ ns
  | [] => Iff.rfl
  | y :: ns => by
    unfold ddp
    have ih := mem_ddp (x := x) (ns := ns)
    split
    · rename_i h
      rw [ih, List.mem_cons]
      exact ⟨.inr, fun z => z.elim (fun e => e ▸ h) id⟩
    · rw [List.mem_cons, List.mem_cons, ih]
theorem nd_ddp : ∀ {ns : List Int}, (ddp ns).Nodup
  | [] => List.Pairwise.nil
  | y :: ns => by
    unfold ddp
    have ih := nd_ddp (ns := ns)
    split
    · exact ih
    · rename_i h
      exact List.nodup_cons.mpr ⟨fun z => h (mem_ddp.mp z), ih⟩
theorem ddp_len : ∀ {ns : List Int}, (ddp ns).length ≤ ns.length
  | [] => Nat.le_refl _
  | y :: ns => by
    unfold ddp
    have ih := ddp_len (ns := ns)
    split
    · exact Nat.le_succ_of_le ih
    · exact Nat.succ_le_succ ih
theorem sst_len {ns : List Int} : (sst ns).length ≤ ns.length := by unfold sst; rw [(srt_perm _).length_eq]; exact ddp_len
theorem mem_sst {ns : List Int} {x : Int} : x ∈ sst ns ↔ x ∈ ns := by unfold sst; rw [(srt_perm _).mem_iff]; exact mem_ddp
theorem sst_eq {ns ms : List Int} (h : ms.Pairwise (· < ·)) (e : ∀ k, k ∈ ms ↔ k ∈ ns) : sst ns = ms := by
  refine srt_eq ?_ (h.imp fun z => by omega)
  rw [List.perm_ext_iff_of_nodup (h.imp fun z => by omega) nd_ddp]
  intro k
  rw [e, mem_ddp]
def oin (o : Option Int) (xs : List Int) : Bool := match o with | none => false | some i => decide (i ∈ xs)
section
variable {K : PySem.W.Frag} {w : World} {L R R' : List HA} {Q : VK} {α : Type} {E : El K α} {l a b : Addr} {v : V}
theorem c_setI {ns : List Int} {k : Prop} (hm : grd (ns.length < 64) k) (t : Take (ls (kI (K := K)) l ns) L R) (q : k → ∀ p c, c < 64 → Ent (pt p (SetO w p (fun j => decide (j ∈ ns)) c) :: L) (Q (.ref p))) : Ent L fun H => rSetI w K [.ref l] H Q := fun H h => by
  obtain ⟨vs, h1, h2⟩ := t.ls h
  obtain rfl := all2_I h2
  exact ⟨l, ns, rfl, SqL.of h1, by unfold scanBound; have := hm.1; omega, fun p c np hc => q hm.2 p c (by have := hm.1; omega) _ (h.new np rfl)⟩
theorem c_sortSet {ns : List Int} {c : Nat} (h64 : c < 64) (t : Take (pt a (SetO w a (fun j => decide (j ∈ ns)) c)) L R) (q : ∀ p, Ent (ls (kI (K := K)) p (sst ns) :: L) (Q (.ref p))) : Ent L fun H => rSortedSet w [.ref a] H Q := fun H h => by
  refine ⟨a, _, c, rfl, t.pt h, h64, fun ms p hp hs _ np => ?_⟩
  rw [← sst_eq (ns := ns) hp fun k => (hs k).trans (by simp)]
  exact q p _ (h.ls_new np (All2.map V.int fun _ _ => rfl))
theorem c_neDk0 {κ : Type} {f : κ → L2.Key} {d : List (κ × α)} (t : Take (dk f E a d) L R) (g : Take (pt b (.dK [])) L R') (q : Ent L (Q (.bl (!d.isEmpty)))) : Ent L fun H => rNeDk0 (.ref a) (.ref b) H Q := fun H h => by
  obtain ⟨kvs, h1, h2⟩ := t.dk h
  refine ⟨a, b, kvs, rfl, rfl, h1, g.pt h, ?_⟩
  have e : kvs.isEmpty = d.isEmpty := by cases h2 <;> rfl
  rw [e]
  exact q H h
theorem c_minDk {d : List (Int × α)} {k : Int → Prop} (hm : obx (minI (d.map (·.1))) k) (t : Take (dk fI E a d) L R) (q : ∀ w, k w → Ent L (Q (.int w))) : Ent L fun H => rMinDk [.ref a] H Q := fun H h => by
  obtain ⟨kvs, h1, h2⟩ := t.dk h
  obtain ⟨m, e, hk⟩ := hm
  obtain ⟨m1, m2⟩ := minI_of e
  refine ⟨a, kvs, d.map (·.1), rfl, h1, keysI h2, (fun z => by rw [z] at m1; cases m1), fun m' a1 a2 => ?_⟩
  obtain rfl : m' = m := by
    have x1 := a2 m m1
    have x2 := m2 m' a1
    omega
  exact q m' hk H h
theorem inV_non : ∀ {xs : List Int}, inV .non (xs.map V.int) = false
  | [] => rfl
  | x :: xs => by
    have ih := inV_non (xs := xs)
    unfold inV at ih ⊢
    rw [List.map_cons, List.any_cons, ih]
    rfl
theorem c_inO {o : Option Int} {xs : List Int} (hv : Is (kO (kI (K := K))) L v o) (t : Take (ls (kI (K := K)) l xs) L R) (q : Ent L (Q (.bl (oin o xs)))) : Ent L fun H => rIn K false v (.ref l) H Q := fun H h => by
  obtain ⟨vs, h1, h2⟩ := t.ls h
  obtain rfl := all2_I h2
  have z := hv H h
  cases o with
  | none =>
    obtain rfl : v = .non := z
    exact ⟨l, _, rfl, .inl (SqL.of h1), rfl, flat_ints _, by rw [inV_non]; exact q H h⟩
  | some i =>
    obtain rfl : v = .int i := z
    exact ⟨l, _, rfl, .inl (SqL.of h1), rfl, flat_ints _, by rw [inV_int]; exact q H h⟩
theorem c_inT2 {i x y : Int} {p : Addr} (t : Take (tu p [.int x, .int y]) L R) (q : Ent L (Q (.bl (decide (i ∈ ([x, y] : List Int)))))) : Ent L fun H => rIn K false (.int i) (.ref p) H Q := fun H h =>
  ⟨p, [x, y].map V.int, rfl, .inr (hasT_tu t H h), rfl, flat_ints _, by rw [inV_int]; exact q H h⟩
theorem c_niT2 {i x y : Int} {p : Addr} (t : Take (tu p [.int x, .int y]) L R) (q : Ent L (Q (.bl (!decide (i ∈ ([x, y] : List Int)))))) : Ent L fun H => rIn K true (.int i) (.ref p) H Q := fun H h =>
  ⟨p, [x, y].map V.int, rfl, .inr (hasT_tu t H h), rfl, flat_ints _, by rw [inV_int]; exact q H h⟩
theorem all2_some {H : Hp} {vs : List V} {xs : List α} (e : All2 (E.P H) vs xs) : All2 ((kO E).P H) vs (xs.map some) := by
  induction e with
  | nil => exact .nil
  | cons z _ ih => exact .cons z ih
theorem take_lsS {xs : List α} (t : Take (ls E l xs) L R) : Take (ls (kO E) l (xs.map some)) L R := Sub.trans t fun H S ⟨S1, S2, ⟨⟨vs, h, e⟩, s⟩, h2, hd, hs⟩ => ⟨S, ⟨S1, S2, ⟨⟨vs, h, all2_some e⟩, s⟩, h2, hd, hs⟩, fun _ q => q⟩
end
end Toy
namespace Toy
open PySem L2 PySem.Spec PyProof.Rows
/-! ## xs.insert(0, y) -/
def rIns : V → List V → Hp → VK → Prop := fun x vs H Q => ∃ (l : Addr) (xs : List V) (i : Int) (y : V), x = .ref l ∧ vs = [.int i, y] ∧ H l = some (.lst xs) ∧ xs.length < sizeLine ∧ 0 ≤ i ∧ i < 2 ^ 63 ∧
    Q .non (upd H l (.lst (xs.take i.toNat ++ [y] ++ xs.drop i.toNat)))
theorem mt_insD {X : Cx} : MtR X "list.insert" rIns := mt_insert
section
variable {K : PySem.W.Frag} {L R : List HA} {Q : VK} {α : Type} {E : El K α} {l : Addr} {v : V}
theorem c_ins0 {xs : List α} {y : α} {k : Prop} (hm : grd (xs.length ≤ 100000) k) (t : Take (ls E l xs) L R) (hy : Is E L v y) (q : k → Ent (ls E l (y :: xs) :: R) (Q .non)) : Ent L fun H => rIns (.ref l) [.int 0, v] H Q := fun H h => by
  obtain ⟨vs, h1, h2⟩ := t.ls h
  refine ⟨l, vs, 0, v, rfl, rfl, h1, by rw [h2.len]; exact Nat.lt_of_le_of_lt hm.1 (by decide), by decide, by decide, ?_⟩
  exact q hm.2 _ ((t.to h).ls_upd (.cons (hy H h) h2))
theorem ty_tu {us : List V} (t : Take (tu l us) L R) : ∀ H, Holds L H → TyX K H (.ref l) (.type "tuple") := fun H h => ty_sqT (hasT_tu t H h)
theorem ty_vTu {B : Els K α} {x : α} (t : Take (vl (kTup B) v x) L R) : ∀ H, Holds L H → TyX K H v (.type "tuple") := fun H h => by
  obtain ⟨S, S1, S2, h1, _⟩ := t.to h
  obtain ⟨⟨p, us, rfl, e, _⟩, _⟩ := h1
  exact ty_sqT (SqT.of e)
theorem ty_vT {xs : List α} (t : Take (vl (kT E) v xs) L R) : ∀ H, Holds L H → TyX K H v (.type "tuple") := fun H h => by
  obtain ⟨S, S1, S2, h1, _⟩ := t.to h
  obtain ⟨⟨p, us, rfl, e, _⟩, _⟩ := h1
  exact ty_sqT e
theorem c_ixLr {vs : List V} {i : Int} (t : Take (pt l (.lst vs)) L R) (e : atI vs i = some v) (q : Ent L (Q v)) : Ent L fun H => rIxL K (.ref l) (.int i) H Q := e_ixL (fun H h => SqL.of (t.pt h)) e q
theorem c_getU1I {E : El K α} {o : α ⊕ Int} {k : Int → Prop} {φ : Hp → Prop} (hm : obu1 o k) (t : Take (vl (kU E (kI (K := K))) v o) L R) (q : ∀ w, k w → v = .int w → Ent L φ) : Ent L φ := fun H h => by
  obtain ⟨w, e, hk⟩ : ∃ w, o = .inr w ∧ k w := by
    cases o with
    | inl x => rw [obu1_l] at hm; exact hm.elim
    | inr w => rw [obu1_r] at hm; exact ⟨w, rfl, hm⟩
  subst e
  obtain ⟨S, S1, S2, h1, _⟩ := t.to h
  exact q w hk h1.1 H h
instance : Apart (kSt (K := K)) (kI (K := K)) := ⟨fun x y => by
  show PyData.eqv (.str x) (.int y) = false
  simp [PyData.eqv], fun x y => by
  show PyData.eqv (.int y) (.str x) = false
  simp [PyData.eqv]⟩
end
end Toy
namespace Toy
open PySem L2 PySem.Spec PyProof.Rows
/-! ## dicts that are records: written text keys -/
def kDisp (p : Addr) (Q : VK) (ps : List (V × V)) (H2 : Hp) : Prop := H2 p = some (.dK []) ∧ ∃ kvs : List (L2.Key × V), ps = kvs.map (fun kv => (kV kv.1, kv.2)) ∧ kvs.length ≤ 15 ∧ Q (.ref p) (L2.upd H2 p (.dK (mergeK [] kvs)))
def kPair (x y : V) (Q : List (V × V) → Hp → Prop) (ps : List (V × V)) (H : Hp) : Prop := Q ((x, y) :: ps) H
section
variable {L R : List HA} {Q : VK} {φ : Hp → Prop} {v u x y : V} {σ : L2.St} {td ty tv tx : TE} {Qp : List (V × V) → Hp → Prop} {p : Addr}
theorem e_disp {trs : List (TE × TE)} (q : ∀ p, Ent (pt p (.dK []) :: L) fun H => tPairs trs σ H (kDisp p Q)) : Ent L fun H => tDisp trs σ H Q := fun H h p np => q p _ (h.new np rfl)
theorem e_pairC {r : List (TE × TE)} (q : Ent L fun H => td σ H fun x H1 => tv σ H1 fun y H2 => tPairs r σ H2 (kPair x y Qp)) : Ent L fun H => tPairs ((td, tv) :: r) σ H Qp := q
theorem e_pairN (q : Ent L fun H => Qp [] H) : Ent L fun H => tPairs [] σ H Qp := q
theorem e_pairK {ps : List (V × V)} (q : Ent L fun H => Qp ((x, y) :: ps) H) : Ent L fun H => kPair x y Qp ps H := q
theorem dgR {r : Addr} {kvs : List (L2.Key × V)} {k : Str} (t : Take (pt r (.dK kvs)) L R) (e : valV kvs (Sum.inr k) = some v) (q : Ent L (Q v)) : Ent L fun H => kDGet Q (.ref r) (.str k) H := fun H h => by
  refine ⟨r, v, rfl, ?_, q H h⟩
  have := DGet.k (k := (Sum.inr k : L2.Key)) (t.pt h)
  rw [e] at this
  exact this
theorem dpR {r : Addr} {kvs kvs' : List (L2.Key × V)} {k : Str} (t : Take (pt r (.dK kvs)) L R) (hl : kvs.length < sizeLine) (e : putK kvs (Sum.inr k) v = kvs') (q : Ent (pt r (.dK kvs') :: R) φ) : Ent L fun H => kDPut φ (.ref r) (.str k) v H := fun H h => by
  subst e
  exact ⟨r, _, rfl, DPut.k (k := (Sum.inr k : L2.Key)) (t.pt h) hl, q _ ((t.to h).upd rfl)⟩
theorem mkR {kvs kvs' : List (L2.Key × V)} {ps : List (V × V)} (t : Take (pt p (.dK [])) L R) (ep : ps = kvs.map (fun kv => (kV kv.1, kv.2))) (hl : kvs.length ≤ 15) (e : mergeK [] kvs = kvs') (q : Ent (pt p (.dK kvs') :: R) (Q (.ref p))) : Ent L fun H => kDisp p Q ps H := fun H h => by
  subst e
  exact ⟨t.pt h, kvs, ep, hl, q _ ((t.to h).upd rfl)⟩
end
/-! ## tuples of any length: cut, made of a list or a tuple, joined -/
section
variable {K : PySem.W.Frag} {α β : Type} {L R R' : List HA} {Q : VK} {E : El K α} {v u : V} {xs ys : List α}
theorem slTA {X : Cx} (h : X.K = K := by rfl) : SlR X (rSlA K) := h ▸ sl_tupA
theorem catTA {X : Cx} (h : X.K = K := by rfl) : OpR X (binaryOp .Add) (rCatA K) := h ▸ op_catA
theorem c_slKT {lo hi : Option Int} (t : Take (vl (kT E) v xs) L R) (q : ∀ p, Ent (vl (kT E) (.ref p) (cutA xs lo hi) :: L) (Q (.ref p))) : Ent L fun H => rSlA K v lo hi H Q := fun H h => by
  obtain ⟨a, vs, rfl, h1, h2⟩ := t.vl h
  refine ⟨a, vs, rfl, h1, fun hw => ?_, fun hw p np => ?_⟩
  · have e : cutA xs lo hi = xs := by
      unfold cutA
      rw [← h2.len, hw.1, hw.2, List.drop_zero, Nat.sub_zero, h2.len, List.take_length]
    refine q a H (h.vl ?_)
    rw [e]
    exact ⟨a, vs, rfl, h1, h2⟩
  · obtain ⟨b, n, e, e2, e3⟩ := h2.cutV (lo := lo) (hi := hi)
    have h3 : Holds L (L2.upd H p (.tup (L2.cutV vs lo hi))) := Sub.to (Sub.drop Sub.refl) (h.newI (o := .tup (L2.cutV vs lo hi)) np rfl)
    refine q p _ (h3.vl ⟨p, _, rfl, SqT.of upd_same, ?_⟩)
    rw [e, e2, e3]
    exact ((h2.imp fun _ _ z => E.st z (keepI_new np)).drop _).take _
theorem c_tupSq (h : SqAt E L v xs) (q : ∀ p, Ent (vl (kT E) (.ref p) xs :: L) (Q (.ref p))) : Ent L fun H => rTupK K [v] H Q := fun H z => by
  cases h with
  | lst h =>
    obtain ⟨vs, h1, h2⟩ := h H z
    refine ⟨_, vs, rfl, .inl ⟨h1, fun p np => q p _ ?_⟩⟩
    have h3 : Holds L (L2.upd H p (.tup vs)) := Sub.to (Sub.drop Sub.refl) (z.newI (o := .tup vs) np rfl)
    exact h3.vl ⟨p, vs, rfl, SqT.of upd_same, h2.imp fun _ _ y => E.st y (keepI_new np)⟩
  | tup h =>
    obtain ⟨a, vs, rfl, h1, h2⟩ := h H z
    exact ⟨_, vs, rfl, .inr ⟨h1, q _ H (z.vl ⟨_, vs, rfl, h1, h2⟩)⟩⟩
theorem c_catKT (t : Take (vl (kT E) v xs) L R) (t2 : Take (vl (kT E) u ys) L R') {k : Prop} (hm : grd (xs.length + ys.length ≤ 100000) k) (q : k → ∀ p, Ent (vl (kT E) (.ref p) (xs ++ ys) :: L) (Q (.ref p))) : Ent L fun H => rCatA K v u H Q := fun H h => by
  obtain ⟨a, vs, rfl, h1, h2⟩ := t.vl h
  obtain ⟨b, ws, rfl, h3, h4⟩ := t2.vl h
  have hq := q hm.2
  refine ⟨a, b, vs, ws, rfl, rfl, h1, h3, by rw [h2.len, h4.len]; exact Nat.le_trans hm.1 (by decide), fun e => ?_, fun _ e => ?_, fun _ _ p np => ?_⟩
  · subst e
    cases h2
    exact hq b H (h.vl ⟨b, ws, rfl, h3, h4⟩)
  · subst e
    cases h4
    exact hq a H (h.vl (by rw [List.append_nil]; exact ⟨a, vs, rfl, h1, h2⟩))
  · have h5 : Holds L (L2.upd H p (.tup (vs ++ ws))) := Sub.to (Sub.drop Sub.refl) (h.newI (o := .tup (vs ++ ws)) np rfl)
    exact hq p _ (h5.vl ⟨p, _, rfl, SqT.of upd_same, (h2.app h4).imp fun _ _ y => E.st y (keepI_new np)⟩)
theorem c_inT1 {i x0 : Int} {p : Addr} (t : Take (tu p [.int x0]) L R) (q : Ent L (Q (.bl (decide (i ∈ ([x0] : List Int)))))) : Ent L fun H => rIn K false (.int i) (.ref p) H Q := fun H h =>
  ⟨p, [x0].map V.int, rfl, .inr (hasT_tu t H h), rfl, flat_ints _, by rw [inV_int]; exact q H h⟩
theorem c_niT1 {i x0 : Int} {p : Addr} (t : Take (tu p [.int x0]) L R) (q : Ent L (Q (.bl (!decide (i ∈ ([x0] : List Int)))))) : Ent L fun H => rIn K true (.int i) (.ref p) H Q := fun H h =>
  ⟨p, [x0].map V.int, rfl, .inr (hasT_tu t H h), rfl, flat_ints _, by rw [inV_int]; exact q H h⟩
theorem c_inT3 {i x0 x1 x2 : Int} {p : Addr} (t : Take (tu p [.int x0, .int x1, .int x2]) L R) (q : Ent L (Q (.bl (decide (i ∈ ([x0, x1, x2] : List Int)))))) : Ent L fun H => rIn K false (.int i) (.ref p) H Q := fun H h =>
  ⟨p, [x0, x1, x2].map V.int, rfl, .inr (hasT_tu t H h), rfl, flat_ints _, by rw [inV_int]; exact q H h⟩
theorem c_niT3 {i x0 x1 x2 : Int} {p : Addr} (t : Take (tu p [.int x0, .int x1, .int x2]) L R) (q : Ent L (Q (.bl (!decide (i ∈ ([x0, x1, x2] : List Int)))))) : Ent L fun H => rIn K true (.int i) (.ref p) H Q := fun H h =>
  ⟨p, [x0, x1, x2].map V.int, rfl, .inr (hasT_tu t H h), rfl, flat_ints _, by rw [inV_int]; exact q H h⟩
theorem c_inT4 {i x0 x1 x2 x3 : Int} {p : Addr} (t : Take (tu p [.int x0, .int x1, .int x2, .int x3]) L R) (q : Ent L (Q (.bl (decide (i ∈ ([x0, x1, x2, x3] : List Int)))))) : Ent L fun H => rIn K false (.int i) (.ref p) H Q := fun H h =>
  ⟨p, [x0, x1, x2, x3].map V.int, rfl, .inr (hasT_tu t H h), rfl, flat_ints _, by rw [inV_int]; exact q H h⟩
theorem c_niT4 {i x0 x1 x2 x3 : Int} {p : Addr} (t : Take (tu p [.int x0, .int x1, .int x2, .int x3]) L R) (q : Ent L (Q (.bl (!decide (i ∈ ([x0, x1, x2, x3] : List Int)))))) : Ent L fun H => rIn K true (.int i) (.ref p) H Q := fun H h =>
  ⟨p, [x0, x1, x2, x3].map V.int, rfl, .inr (hasT_tu t H h), rfl, flat_ints _, by rw [inV_int]; exact q H h⟩
theorem c_inT5 {i x0 x1 x2 x3 x4 : Int} {p : Addr} (t : Take (tu p [.int x0, .int x1, .int x2, .int x3, .int x4]) L R) (q : Ent L (Q (.bl (decide (i ∈ ([x0, x1, x2, x3, x4] : List Int)))))) : Ent L fun H => rIn K false (.int i) (.ref p) H Q := fun H h =>
  ⟨p, [x0, x1, x2, x3, x4].map V.int, rfl, .inr (hasT_tu t H h), rfl, flat_ints _, by rw [inV_int]; exact q H h⟩
theorem c_niT5 {i x0 x1 x2 x3 x4 : Int} {p : Addr} (t : Take (tu p [.int x0, .int x1, .int x2, .int x3, .int x4]) L R) (q : Ent L (Q (.bl (!decide (i ∈ ([x0, x1, x2, x3, x4] : List Int)))))) : Ent L fun H => rIn K true (.int i) (.ref p) H Q := fun H h =>
  ⟨p, [x0, x1, x2, x3, x4].map V.int, rfl, .inr (hasT_tu t H h), rfl, flat_ints _, by rw [inV_int]; exact q H h⟩
theorem c_inT6 {i x0 x1 x2 x3 x4 x5 : Int} {p : Addr} (t : Take (tu p [.int x0, .int x1, .int x2, .int x3, .int x4, .int x5]) L R) (q : Ent L (Q (.bl (decide (i ∈ ([x0, x1, x2, x3, x4, x5] : List Int)))))) : Ent L fun H => rIn K false (.int i) (.ref p) H Q := fun H h =>
  ⟨p, [x0, x1, x2, x3, x4, x5].map V.int, rfl, .inr (hasT_tu t H h), rfl, flat_ints _, by rw [inV_int]; exact q H h⟩
theorem c_niT6 {i x0 x1 x2 x3 x4 x5 : Int} {p : Addr} (t : Take (tu p [.int x0, .int x1, .int x2, .int x3, .int x4, .int x5]) L R) (q : Ent L (Q (.bl (!decide (i ∈ ([x0, x1, x2, x3, x4, x5] : List Int)))))) : Ent L fun H => rIn K true (.int i) (.ref p) H Q := fun H h =>
  ⟨p, [x0, x1, x2, x3, x4, x5].map V.int, rfl, .inr (hasT_tu t H h), rfl, flat_ints _, by rw [inV_int]; exact q H h⟩
end
end Toy
namespace Toy
open PySem L2 PySem.Spec PyProof.Rows
/-! ## written dicts of the top, known whole -/
def PairsT : List DictEntry → List (Str × V) → Prop
  | [], [] => True
  | e :: es, p :: ps => (∃ t, e.key = .str p.1 t) ∧ RelV p.2 e.val ∧ PairsT es ps
  | _, _ => False
structure KTab (K : PySem.W.Frag) (w : World) (a : Addr) (T : List (Str × V)) : Prop where
  ex : ∃ es n, KDict K w a es n ∧ PairsT es.toList T
  nd : (T.map (·.1)).Nodup
  sz : T.length ≤ sizeLine
theorem pairsT_find : ∀ {es : List DictEntry} {T : List (Str × V)}, PairsT es T → ∀ x, (∀ v, dlk T x = some v → ∃ e, es.find? (·.key.isStr x) = some e ∧ RelV v e.val) ∧ (dlk T x = none → es.find? (·.key.isStr x) = none)
  | [], [], _, x => ⟨fun v e => (by cases e), fun _ => rfl⟩
  | e :: es, p :: ps, ⟨⟨t, hk⟩, hr, hp⟩, x => by
    have ih := pairsT_find hp x
    have ek : e.key.isStr x = decide (p.1 = x) := by rw [hk]; show (p.1 == x) = _; by_cases c : p.1 = x <;> simp [c]
    unfold dlk at ih ⊢
    rw [List.find?_cons, List.find?_cons, ek]
    by_cases c : p.1 = x
    · simp only [c, decide_true]
      exact ⟨fun v ev => ⟨e, rfl, by cases ev; exact hr⟩, fun z => by cases z⟩
    · simp only [c, decide_false]
      exact ih
theorem pairsT_ref : ∀ {es : List DictEntry} {T : List (Str × V)}, PairsT es T → es.any (·.refKey) = false
  | [], [], _ => rfl
  | e :: es, p :: ps, ⟨⟨t, hk⟩, hr, hp⟩ => by
    rw [List.any_cons, pairsT_ref hp]
    unfold DictEntry.refKey
    rw [hk]; rfl
theorem KTab.ns {K : PySem.W.Frag} {w : World} {a : Addr} {T : List (Str × V)} (k : KTab K w a T) (x : Str) : ∃ es n, KDict K w a es n ∧ ∃ r, PySem.W.nsIn K a x = some r ∧ (∀ v, dlk T x = some v → ∃ u, r = some u ∧ RelV v u) ∧ r.isSome = (dlk T x).isSome := by
  obtain ⟨es, n, D, hp⟩ := k.ex
  refine ⟨es, n, D, ?_⟩
  have h1 := pairsT_find hp x
  unfold PySem.W.nsIn
  rw [D.at_]
  dsimp only
  cases e : dlk T x with
  | none =>
    rw [h1.2 e]
    dsimp only
    rw [if_neg (by rw [pairsT_ref hp]; decide)]
    exact ⟨none, rfl, fun v z => (by cases z), rfl⟩
  | some v =>
    obtain ⟨d, e2, r⟩ := h1.1 v e
    rw [e2]
    exact ⟨some d.val, rfl, fun v' z => by cases z; exact ⟨_, rfl, r⟩, rfl⟩
theorem pairsT_kvs {P : Program} {w : World} : ∀ {es : List DictEntry} {T : List (Str × V)}, PairsT es T → ∃ vs, KV (T.map fun p => ((Sum.inr p.1 : L2.Key), p.2)) vs ∧ Pairs (mixKind P w) es vs ∧ vs.map (·.1) = (T.map fun p => (Sum.inr p.1 : L2.Key))
  | [], [], _ => ⟨[], .nil, .nil, rfl⟩
  | e :: es, p :: ps, ⟨⟨t, hk⟩, hr, hp⟩ => by
    obtain ⟨vs, h1, h2, h3⟩ := pairsT_kvs (P := P) (w := w) hp
    refine ⟨(Sum.inr p.1, e.val) :: vs, .cons ⟨rfl, hr⟩ h1, .cons ?_ rfl h2, by rw [List.map_cons, List.map_cons, h3]⟩
    show keyIs (Sum.inr p.1) e.key = true
    rw [hk]
    show (p.1 == p.1) = true
    exact beq_self_eq_true _
theorem KTab.dict {K : PySem.W.Frag} {w : World} {P : Program} {a : Addr} {T : List (Str × V)} (k : KTab K w a T) {h : Heap} (X : K.In h) : (a == sysModules) = false ∧ ∃ vs, KV (T.map fun p => ((Sum.inr p.1 : L2.Key), p.2)) vs ∧ h.DictOf (mixKind P w) a vs := by
  obtain ⟨es, n, D, hp⟩ := k.ex
  obtain ⟨vs, h1, h2, h3⟩ := pairsT_kvs (P := P) (w := w) hp
  refine ⟨D.low, vs, h1, _, es, n, X _ _ D.at_, ⟨rfl, rfl, rfl⟩, rfl, fun e he => ?_, h2, ?_⟩
  · obtain ⟨x, t, e1, e2⟩ := D.lit.all e (Array.mem_toList_iff.mpr he)
    refine ⟨Sum.inr x, ?_, by rw [e2]; rfl⟩
    show keyIs (Sum.inr x) e.key = true
    rw [e1]
    show (x == x) = true
    exact beq_self_eq_true _
  · rw [h3, show (T.map fun p => (Sum.inr p.1 : L2.Key)) = (T.map (·.1)).map Sum.inr by rw [List.map_map]; rfl]
    exact k.nd.map _ fun a b n z => n (Sum.inr.inj z)
section
variable {K : PySem.W.Frag} {w : World}
def rInKT (K : PySem.W.Frag) (w : World) : R2 := fun x y H Q => ∃ z d T, x = .str z ∧ y = .ref d ∧ KTab K w d T ∧ Q (.bl (dlk T z).isSome) H
def rNiKT (K : PySem.W.Frag) (w : World) : R2 := fun x y H Q => ∃ z d T, x = .str z ∧ y = .ref d ∧ KTab K w d T ∧ Q (.bl (!(dlk T z).isSome)) H
variable {X : Cx}
theorem op_inKT (hK : X.K = K := by rfl) (hw : X.w = w := by rfl) : OpR X (compareOp .In) (rInKT K w) := by
  subst hK hw
  intro pins s σ H x y v u Q I rx ry ⟨z, d, T, e1, e2, k, q⟩
  obtain ⟨es, n, D, r, e, _, hr⟩ := k.ns z
  exact op_in_kd D pins s σ H x y v u Q I rx ry ⟨z, r, e1, e2, e, by rw [hr]; exact q⟩
theorem op_niKT (hK : X.K = K := by rfl) (hw : X.w = w := by rfl) : OpR X (compareOp .NotIn) (rNiKT K w) := by
  subst hK hw
  intro pins s σ H x y v u Q I rx ry ⟨z, d, T, e1, e2, k, q⟩
  obtain ⟨es, n, D, r, e, _, hr⟩ := k.ns z
  exact op_notIn_kd D pins s σ H x y v u Q I rx ry ⟨z, r, e1, e2, e, by rw [hr]; exact q⟩
def rLenKT (K : PySem.W.Frag) (w : World) : List V → Hp → VK → Prop := fun xs H Q => ∃ a T, xs = [V.ref a] ∧ KTab K w a T ∧ Q (.int T.length) H
theorem call_lenKT (hK : X.K = K := by rfl) (hw : X.w = w := by rfl) : CallR X (.builtin "len") (rLenKT K w) := by
  subst hK hw
  intro pins s σ H xs us Q I r ⟨a, T, e, k, q⟩
  subst e
  obtain ⟨u, rfl, ru⟩ := vals1 r
  cases ru
  obtain ⟨hd, vs, rel, dd⟩ := k.dict (P := X.prog) I.kIn
  have hl : T.length = vs.length := by rw [← rel.length, List.length_map]
  refine call_len_dict hd dd (by have := k.sz; rw [sizeLine_eq] at this; omega) ?_
  rw [← hl]
  exact ⟨.int T.length, H, I.tok _, ⟨_, rfl⟩, q⟩
def rListKT (K : PySem.W.Frag) (w : World) : List V → Hp → VK → Prop := fun xs H Q => ∃ a T, xs = [V.ref a] ∧ KTab K w a T ∧ ∀ p, H p = none → Q (.ref p) (L2.upd H p (.lst (T.map fun q => V.str q.1)))
theorem call_listKT (hc : X.calm = true := by rfl) (hK : X.K = K := by rfl) (hw : X.w = w := by rfl) : CallR X (.type "list") (rListKT K w) := by
  subst hK hw
  intro pins s σ H xs us Q I r ⟨p, T, e, k, q⟩
  subst e
  obtain ⟨u, eu, rx⟩ := vals1 r
  subst eu
  obtain rfl : u = Value.ref p := rx
  obtain ⟨lo, vs, rk, hd⟩ := k.dict (P := X.prog) I.kIn
  obtain ⟨ep, hat⟩ := hd.dictAt
  have hl : T.length = vs.length := by rw [← rk.length, List.length_map]
  refine PySem.W.kdl_call (PySem.W.kdl_dict (knd := mixKind X.prog X.w) (kvs := vs) (ep := ep) lo) (I.ok.hd hc) hat (by rw [← hl]; exact k.sz) fun h' tk acc' c' hkeep hS hacc => ?_
  refine ⟨.ref s.heap.objs.size, L2.upd H s.heap.objs.size (.lst (T.map fun q => V.str q.1)), I.laid hkeep (Nat.le_refl _) (show ObjOk X.prog X.w _ _ _ (.lst (T.map fun q => V.str q.1)) from ⟨?_, acc'.toList, c', ?_, ?_⟩), rfl, q _ (I.hok.fresh (Nat.le_refl _))⟩
  · rw [List.length_map]; exact k.sz
  · have el : acc'.toList.length = acc'.size := by simp
    refine vals_of_at (by rw [List.length_map, el, hacc.1, hl]) fun j x w' h1 h2 => ?_
    obtain ⟨kk, y, hky, hi⟩ := hacc.2 j w' (by rw [← Array.getElem?_toList]; exact h2)
    have e1 : ((T.map fun p => ((Sum.inr p.1 : L2.Key), p.2)).map (·.1))[j]? = some kk := by
      rw [KV.keys rk, List.getElem?_map, hky]
      rfl
    rw [List.map_map, List.getElem?_map] at e1
    obtain ⟨t, e2, e3⟩ := Option.map_eq_some_iff.mp e1
    rw [List.getElem?_map, e2] at h1
    cases h1
    have e4 : kk = Sum.inr t.1 := e3.symm
    subst e4
    exact keyIs_rel (k := Sum.inr t.1) hi
  · rw [Array.toArray_toList]; exact hS
theorem valV_dlk (T : List (Str × V)) (sx : Str) : valV (T.map fun p => ((Sum.inr p.1 : L2.Key), p.2)) (Sum.inr sx) = dlk T sx := by
  induction T with
  | nil => rfl
  | cons p T ih =>
    unfold dlk at ih ⊢
    rw [List.map_cons, List.find?_cons]
    by_cases c : p.1 = sx
    · rw [valV_pos (by rw [c])]
      simp [c]
    · rw [valV_neg (fun z => c (Sum.inr.inj z)), ih]
      simp [c]
/-- d.get(k, x) of such a dict -/
def tKGet2 (K : PySem.W.Frag) (w : World) (td ty tx : TE) : TE := fun σ H Q => td σ H fun x H1 => ∃ a T, x = .ref a ∧ KTab K w a T ∧ ty σ H1 fun y H2 => tx σ H2 fun z H3 => ∃ s, y = .str s ∧ Q ((dlk T s).getD z) H3
theorem pe_kget2 {o e f : Expr} {apos cpos : Pos} {td ty tx : TE} (ho : PE X o td) (he : PE X e ty) (hf : PE X f tx) (m : M2 X o "get" apos e f cpos) (hK : X.K = K := by rfl) (hw : X.w = w := by rfl) : PE X (.Call (.Attribute o "get" apos) [e, f] [] cpos) (tKGet2 K w td ty tx) := by
  subst hK hw
  refine ⟨fun pins s σ H Q I h => ?_⟩
  refine wpAny_Call_method m.base m.few m.line PySem.F.plainAttrs_dict PySem.F.slot_dict_get PySem.F.type_dict_get (thn (ho.run pins s σ H _ I h) fun u s1 ⟨x, H1, I1, rx, a, T, ex, k, q1⟩ => ?_)
  subst ex
  obtain rfl : u = Value.ref a := rx
  obtain ⟨hd, vs, rel, dd⟩ := k.dict (P := X.prog) I1.kIn
  refine ⟨dd.typeIs, fun b q => ?_, ?_⟩
  · cases q
    obtain ⟨ob, _, _, h1, h2, _⟩ := dd
    exact ⟨ob, h1, h2.2.1⟩
  rw [m.trees]
  refine Calls.callWith_builtin rfl (Calls.evalArgs_plain (Calls.spliced_cons (thn (he.run pins s1 σ H1 _ I1 q1) fun iv s2 ⟨y, H2, I2, ry, q2⟩ =>
    Calls.spliced_cons (thn (hf.run pins s2 σ H2 _ I2 q2) fun fv s3 ⟨z, H3, I3, rz, sx, ey, q3⟩ => Calls.spliced_nil ?_))))
  subst ey
  obtain ⟨hd, vs, rel, dd⟩ := k.dict (P := X.prog) I3.kIn
  refine call_meetsIn PySem.F.slot_dict_get dd.typeIs PySem.F.entry_dict_get (PySem.F.args_dict_get_3 _ _ _) (meets_dict_get_default (mixKind X.prog X.w) a (kV_is (k := Sum.inr sx) ry) hd fv) ⟨_, dd.mapOf, ⟨(dlk T sx).getD z, H3, I3.tok _, ?_, q3⟩⟩
  have hv := valV_dlk T sx
  rw [← hv]
  exact (rel.val (Sum.inr sx)).getD rz
end
end Toy
namespace Toy
open PySem L2 PySem.Spec PyProof.Rows
/-! ## tuple * int, any number -/
theorem tuple_mul1 (l : Addr) (items : Array Value) (n : Nat) (dd : Option Addr) (sl : Array (Option Value)) (x : Int) (u : Tok) (c0 : (decide (x < -(2 ^ 63)) || decide (x ≥ 2 ^ 63)) = false) (c1 : (items.isEmpty || x == 1) = true) :
    Meets (Builtin.«tuple.__mul__» ⟨[.ref l, .int x u], []⟩) (fun _ R s => s.heap.get? l = some { cls := .type "tuple", dict := dd, data := .seq items n, slots := sl } ∧
      R (.ok (.ret (Value.ref l))) { s with toks := s.toks }) :=
  .of_wp fun prog w A R s h => by
    obtain ⟨hp, g, d, tk, os⟩ := s
    obtain ⟨hl, h⟩ := h
    have f1 := AutoSeq1.idx_int
    wp_walk using wpAny_loadPart' hl
    repeat (first
      | (refine wpAny_ite_false (decide_eq_false (by rw [c0]; exact Bool.false_ne_true)) ?_; wp_walk using wpAny_loadPart' hl)
      | (refine wpAny_ite_true (decide_eq_true c1) ?_; wp_walk using wpAny_loadPart' hl))
    exact ⟨_, rfl, h⟩
theorem tuple_mul0 (l : Addr) (items : Array Value) (n : Nat) (dd : Option Addr) (sl : Array (Option Value)) (x : Int) (u : Tok) (c0 : (decide (x < -(2 ^ 63)) || decide (x ≥ 2 ^ 63)) = false) (c1 : (items.isEmpty || x == 1) = false) (c2 : (decide (x ≤ 0) || items.isEmpty) = true) :
    Meets (Builtin.«tuple.__mul__» ⟨[.ref l, .int x u], []⟩) (fun _ R s => s.heap.get? l = some { cls := .type "tuple", dict := dd, data := .seq items n, slots := sl } ∧
      R (.ok (.ret (Value.ref s.heap.objs.size))) { s with heap := s.heap.push { cls := Value.type "tuple", data := Data.seq #[] }, toks := s.toks }) :=
  .of_wp fun prog w A R s h => by
    obtain ⟨hp, g, d, tk, os⟩ := s
    obtain ⟨hl, h⟩ := h
    have f1 := AutoSeq1.idx_int
    wp_walk using wpAny_loadPart' hl
    repeat (first
      | (refine wpAny_ite_false (decide_eq_false (by rw [c0]; exact Bool.false_ne_true)) ?_; wp_walk using wpAny_loadPart' hl)
      | (refine wpAny_ite_false (decide_eq_false (by rw [c1]; exact Bool.false_ne_true)) ?_; wp_walk using wpAny_loadPart' hl)
      | (refine wpAny_ite_true (decide_eq_true c2) ?_; wp_walk using wpAny_loadPart' hl)
      | (refine wpAny_ite_false (decide_eq_false (by decide)) ?_; wp_walk using wpAny_loadPart' hl))
    exact ⟨_, rfl, h⟩
def rRepTA (K : PySem.W.Frag) : R2 := fun x y H Q => ∃ l k xs, x = .ref l ∧ y = .int k ∧ SqT K H l xs ∧ -1000 ≤ k ∧ k ≤ 1000 ∧ xs.length ≤ 1000 ∧ ((xs = [] ∨ k = 1) → Q (.ref l) H) ∧ (¬ (xs = [] ∨ k = 1) → ∀ p, H p = none → Q (.ref p) (L2.upd H p (.tup (List.replicate k.toNat xs).flatten)))
theorem op_repTA {X : Cx} : OpR X (binaryOp .Mult) (rRepTA X.K) := by
  intro pins s σ H x y v u Q I rx ry h
  obtain ⟨l, k, xs, rfl, rfl, hT, h1, h2, hz, q1, q2⟩ := h
  by_cases hbig : xs ≠ [] ∧ 2 ≤ k
  · exact op_repT pins s σ H _ _ v u Q I rx ry ⟨l, k, xs, rfl, rfl, hT, hbig.1, hbig.2, h2, hz, q2 (fun z => z.elim hbig.1 (by omega))⟩
  cases rx
  obtain ⟨t, rfl⟩ := ry
  obtain ⟨its, r, ⟨⟨cls, dd, data, sl⟩, ho, hc, n, hd⟩, hs⟩ := I.tuple hT
  simp only at hc hd
  subst hc hd
  have hle : its.length = xs.length := r.length.symm
  have c0 : (decide (k < -(2 ^ 63)) || decide (k ≥ 2 ^ 63)) = false := by
    rw [decide_eq_false (by omega), decide_eq_false (by omega)] <;> rfl
  have hemp : its.toArray.isEmpty = decide (xs = []) := by
    cases its with
    | nil =>
      have : xs = [] := List.eq_nil_of_length_eq_zero hle.symm
      rw [this]; rfl
    | cons a b =>
      have : xs ≠ [] := fun e => by rw [e] at hle; cases hle
      rw [decide_eq_false this]; rfl
  by_cases hw : xs = [] ∨ k = 1
  · have c1 : (its.toArray.isEmpty || k == 1) = true := by
      rw [hemp]
      rcases hw with hw | hw
      · rw [decide_eq_true hw, Bool.true_or]
      · rw [hw]; simp
    refine wpAny_binaryOp_repeat_ref (T := "tuple") (U := "int") (by decide) ⟨_, ho, rfl⟩ (fun s' => typeIs_int s' k t) noFill_tuple_mul F.fills_int_mul F.slot_int_rmul repeat_tuple F.slot_int_index.lookup
      (call_meets F.slot_int_rmul (typeIs_int s k t) F.entry_int_rmul (F.args_int_rmul_2 _ _) (int_rmul_tuple k t l its.toArray n dd sl)
        ⟨ho, rfl, ⟨_, ho, rfl⟩, call_meets F.slot_tuple_mul ⟨_, ho, rfl⟩ F.entry_tuple_mul (F.args_tuple_mul_2 _ _) (tuple_mul1 l its.toArray n dd sl k t c0 c1) ⟨ho, ?_⟩⟩)
    exact ⟨.ref l, H, I.tok _, rfl, q1 hw⟩
  · have hne : xs ≠ [] := fun e => hw (.inl e)
    have c1 : (its.toArray.isEmpty || k == 1) = false := by
      rw [hemp, decide_eq_false hne, Bool.false_or]
      exact beq_eq_false_iff_ne.mpr fun e => hw (.inr e)
    have k0 : k ≤ 0 := by
      have : ¬ 2 ≤ k := fun z => hbig ⟨hne, z⟩
      have : k ≠ 1 := fun e => hw (.inr e)
      omega
    have c2 : (decide (k ≤ 0) || its.toArray.isEmpty) = true := by rw [decide_eq_true k0, Bool.true_or]
    refine wpAny_binaryOp_repeat_ref (T := "tuple") (U := "int") (by decide) ⟨_, ho, rfl⟩ (fun s' => typeIs_int s' k t) noFill_tuple_mul F.fills_int_mul F.slot_int_rmul repeat_tuple F.slot_int_index.lookup
      (call_meets F.slot_int_rmul (typeIs_int s k t) F.entry_int_rmul (F.args_int_rmul_2 _ _) (int_rmul_tuple k t l its.toArray n dd sl)
        ⟨ho, rfl, ⟨_, ho, rfl⟩, call_meets F.slot_tuple_mul ⟨_, ho, rfl⟩ F.entry_tuple_mul (F.args_tuple_mul_2 _ _) (tuple_mul0 l its.toArray n dd sl k t c0 c1 c2) ⟨ho, ?_⟩⟩)
    have e : (List.replicate k.toNat xs).flatten = [] := by rw [show k.toNat = 0 by omega]; rfl
    have q := q2 hw
    rw [e] at q
    refine ⟨.ref s.heap.objs.size, _, I.laid (t' := s.toks) (o := .tup []) (fun b ob q => Heap.get?_push_of_some _ q) (Nat.le_refl _) ?_, rfl, q _ (I.hok.fresh (Nat.le_refl _))⟩
    exact ⟨Nat.zero_le _, [], .nil, IsTup.new _ _⟩
/-! ## membership of texts -/
theorem inV_str (x : Str) : ∀ ss : List Str, inV (.str x) (ss.map V.str) = decide (x ∈ ss)
  | [] => rfl
  | y :: ss => by
    have ih := inV_str x ss
    unfold inV at ih ⊢
    rw [List.map_cons, List.any_cons, ih]
    show ((y == x) || decide (x ∈ ss)) = _
    by_cases c : y = x
    · subst c; simp
    · have : ¬ x = y := fun e => c e.symm
      simp [c, this]
theorem flat_strs (ss : List Str) : (ss.map V.str).all flatV = true := by
  rw [List.all_map, List.all_eq_true]
  intro x _
  rfl
def intsU : List (Str ⊕ Int) → Option (List Int)
  | [] => some []
  | .inr i :: r => (intsU r).map (i :: ·)
  | .inl _ :: _ => none
theorem intsU_inr : ∀ ns : List Int, intsU (ns.map .inr) = some ns
  | [] => rfl
  | n :: ns => by rw [List.map_cons, intsU, intsU_inr ns]; rfl
def PairsQ {α : Type} (K : PySem.W.Frag) (vals : α → List V) : List DictEntry → List (Str × α) → Prop
  | [], [] => True
  | e :: es, p :: ps => (∃ t, e.key = .str p.1 t) ∧ (∃ t, e.val = .ref t ∧ ∃ (o : Obj) (its : Array Value) (n : Nat), K.lookup t = some o ∧ o.cls = .type "tuple" ∧ o.data = .seq its n ∧ its.size ≤ sizeLine ∧ Vals (vals p.2) its.toList) ∧ PairsQ K vals es ps
  | _, _ => False
structure KTabQ {α : Type} (K : PySem.W.Frag) (w : World) (vals : α → List V) (a : Addr) (D : List (Str × α)) : Prop where
  ex : ∃ T, KTab K w a T ∧ All2 (fun (p : Str × V) (q : Str × α) => p.1 = q.1 ∧ ∃ t, p.2 = .ref t ∧ ∀ H, SqT K H t (vals q.2)) T D
theorem pairsQ_T {α : Type} {K : PySem.W.Frag} {vals : α → List V} : ∀ {es : List DictEntry} {D : List (Str × α)}, PairsQ K vals es D → ∃ T, PairsT es T ∧ T.map (·.1) = D.map (·.1) ∧ All2 (fun (p : Str × V) (q : Str × α) => p.1 = q.1 ∧ ∃ t, p.2 = .ref t ∧ ∀ H, SqT K H t (vals q.2)) T D
  | [], [], _ => ⟨[], trivial, rfl, .nil⟩
  | e :: es, p :: ps, ⟨hk, ⟨t, hv, o, its, n, e1, e2, e3, e4, e5⟩, hp⟩ => by
    obtain ⟨T, h1, h2, h3⟩ := pairsQ_T hp
    exact ⟨(p.1, .ref t) :: T, ⟨hk, hv, h1⟩, by rw [List.map_cons, List.map_cons, h2], .cons ⟨rfl, t, rfl, fun H => .inr ⟨o, its, n, e1, e2, e3, e4, e5⟩⟩ h3⟩
theorem ktab_of {K : PySem.W.Frag} {w : World} {a : Addr} {T : List (Str × V)} (h : ∃ es n, KDict K w a es n ∧ PairsT es.toList T) (nd : (T.map (·.1)).Nodup) (sz : T.length ≤ sizeLine) : KTab K w a T := ⟨h, nd, sz⟩
theorem ktabQ_of {α : Type} {K : PySem.W.Frag} {w : World} {vals : α → List V} {a : Addr} {D : List (Str × α)} (h : ∃ es n, KDict K w a es n ∧ PairsQ K vals es.toList D) (nd : (D.map (·.1)).Nodup) (sz : D.length ≤ sizeLine) : KTabQ K w vals a D := by
  obtain ⟨es, n, d, p⟩ := h
  obtain ⟨T, h1, h2, h3⟩ := pairsQ_T p
  exact ⟨T, ⟨⟨es, n, d, h1⟩, by rw [h2]; exact nd, by rw [h3.len]; exact sz⟩, h3⟩
theorem dlk_map {α β : Type} (f : α → β) (D : List (Str × α)) (s : Str) : dlk (D.map fun p => (p.1, f p.2)) s = (dlk D s).map f := by
  unfold dlk
  induction D with
  | nil => rfl
  | cons p D ih =>
    rw [List.map_cons, List.find?_cons, List.find?_cons]
    by_cases c : p.1 = s
    · simp [c]
    · simp only [c, decide_false]
      exact ih
theorem kdc_tab {K : PySem.W.Frag} {w : World} {a : Addr} {α : Type} {f : α → V} {D : List (Str × α)} (k : KTab K w a (D.map fun p => (p.1, f p.2))) : KDc K w a f D := fun x v hx => by
  obtain ⟨es, n, d, r, e, h, _⟩ := k.ns x
  obtain ⟨u, e2, e3⟩ := h (f v) (by rw [dlk_map, hx]; rfl)
  exact ⟨es, n, u, d, by rw [e, e2], e3⟩
section
variable {K : PySem.W.Frag} {w : World} {α β : Type} {L R R' : List HA} {Q : VK} {φ : Hp → Prop} {E : El K α} {F : El K β} {v u : V} {a p d : Addr} {us : List V} {σ : L2.St} {ty tx td : TE} {s : Str}
theorem hasT_k (h : ∀ H, SqT K H a us) : HasT K L a us := fun H _ => h H
theorem c_inLsS {ss : List Str} (t : Take (ls (kSt (K := K)) p ss) L R) (q : Ent L (Q (.bl (decide (s ∈ ss))))) : Ent L fun H => rIn K false (.str s) (.ref p) H Q := fun H h => by
  obtain ⟨vs, h1, h2⟩ := t.ls h
  obtain rfl := strs_of h2
  exact ⟨p, _, rfl, .inl (SqL.of h1), rfl, flat_strs _, by rw [inV_str]; exact q H h⟩
theorem c_niLsS {ss : List Str} (t : Take (ls (kSt (K := K)) p ss) L R) (q : Ent L (Q (.bl (!decide (s ∈ ss))))) : Ent L fun H => rIn K true (.str s) (.ref p) H Q := fun H h => by
  obtain ⟨vs, h1, h2⟩ := t.ls h
  obtain rfl := strs_of h2
  exact ⟨p, _, rfl, .inl (SqL.of h1), rfl, flat_strs _, by rw [inV_str]; exact q H h⟩
theorem c_inHS (ss : List Str) (h : HasT K L p (ss.map V.str)) (q : Ent L (Q (.bl (decide (s ∈ ss))))) : Ent L fun H => rIn K false (.str s) (.ref p) H Q := fun H z =>
  ⟨p, _, rfl, .inr (h H z), rfl, flat_strs _, by rw [inV_str]; exact q H z⟩
theorem c_niHS (ss : List Str) (h : HasT K L p (ss.map V.str)) (q : Ent L (Q (.bl (!decide (s ∈ ss))))) : Ent L fun H => rIn K true (.str s) (.ref p) H Q := fun H z =>
  ⟨p, _, rfl, .inr (h H z), rfl, flat_strs _, by rw [inV_str]; exact q H z⟩
/-! ## tables -/
theorem c_inKT {f : α → V} {D : List (Str × α)} (k : KTab K w d (D.map fun p => (p.1, f p.2))) (q : Ent L (Q (.bl (dlk D s).isSome))) : Ent L fun H => rInKT K w (.str s) (.ref d) H Q := fun H h => ⟨s, d, _, rfl, rfl, k, by rw [dlk_map, Option.isSome_map]; exact q H h⟩
theorem c_niKT {f : α → V} {D : List (Str × α)} (k : KTab K w d (D.map fun p => (p.1, f p.2))) (q : Ent L (Q (.bl (!(dlk D s).isSome)))) : Ent L fun H => rNiKT K w (.str s) (.ref d) H Q := fun H h => ⟨s, d, _, rfl, rfl, k, by rw [dlk_map, Option.isSome_map]; exact q H h⟩
theorem dlk_all2 {T : List (Str × V)} {D : List (Str × α)} {P : V → α → Prop} (h : All2 (fun (p : Str × V) (q : Str × α) => p.1 = q.1 ∧ P p.2 q.2) T D) : (dlk T s).isSome = (dlk D s).isSome ∧ ∀ x, dlk D s = some x → ∃ v, dlk T s = some v ∧ P v x := by
  unfold dlk
  induction h with
  | nil => exact ⟨rfl, fun x e => (by cases e)⟩
  | @cons p q ps qs hp _ ih =>
    rw [List.find?_cons, List.find?_cons, hp.1]
    by_cases c : q.1 = s
    · simp only [c, decide_true]
      exact ⟨rfl, fun x e => ⟨p.2, rfl, by cases e; exact hp.2⟩⟩
    · simp only [c, decide_false]
      exact ih
theorem c_inKQ {vals : α → List V} {D : List (Str × α)} (k : KTabQ K w vals d D) (q : Ent L (Q (.bl (dlk D s).isSome))) : Ent L fun H => rInKT K w (.str s) (.ref d) H Q := fun H h => by
  obtain ⟨T, k1, h1⟩ := k.ex
  exact ⟨s, d, T, rfl, rfl, k1, by rw [(dlk_all2 (P := fun v x => ∃ t, v = .ref t ∧ ∀ H, SqT K H t (vals x)) h1).1]; exact q H h⟩
theorem c_niKQ {vals : α → List V} {D : List (Str × α)} (k : KTabQ K w vals d D) (q : Ent L (Q (.bl (!(dlk D s).isSome)))) : Ent L fun H => rNiKT K w (.str s) (.ref d) H Q := fun H h => by
  obtain ⟨T, k1, h1⟩ := k.ex
  exact ⟨s, d, T, rfl, rfl, k1, by rw [(dlk_all2 (P := fun v x => ∃ t, v = .ref t ∧ ∀ H, SqT K H t (vals x)) h1).1]; exact q H h⟩
theorem c_ixDQ {vals : α → List V} {D : List (Str × α)} {k : α → Prop} (hm : obx (dlk D s) k) (t : KTabQ K w vals d D) (q : ∀ x, k x → ∀ c, Ent (tq K c (vals x) :: L) (Q (.ref c))) : Ent L fun H => rIxD K w (.ref d) (.str s) H Q := fun H h => by
  obtain ⟨x, e, hk⟩ := hm
  obtain ⟨T, k1, h1⟩ := t.ex
  obtain ⟨v, e2, c, e3, hs⟩ := (dlk_all2 (P := fun v x => ∃ t, v = .ref t ∧ ∀ H, SqT K H t (vals x)) h1).2 x e
  obtain ⟨es, n, D', r, e4, h4, _⟩ := k1.ns s
  obtain ⟨u, e5, ru⟩ := h4 v e2
  refine ⟨d, s, v, rfl, rfl, ⟨es, n, u, D'.at_, D'.lit, by rw [e4, e5], ru⟩, ?_⟩
  rw [e3]
  obtain ⟨S, h⟩ := h
  exact q x hk c H ⟨S, fun _ => False, S, ⟨hs H, fun b q => q⟩, h, fun b e q => e, fun b => ⟨.inr, fun z => z.elim (fun z => z.elim) id⟩⟩
theorem c_lenKT {T : List (Str × V)} (k : KTab K w d T) (q : Ent L (Q (.int T.length))) : Ent L fun H => rLenKT K w [.ref d] H Q := fun H h => ⟨d, T, rfl, k, q H h⟩
theorem c_listKT {f : α → V} {D : List (Str × α)} (k : KTab K w d (D.map fun p => (p.1, f p.2))) (hs : (D.all fun p => PyData.strOk p.1) = true) (q : ∀ p, Ent (ls (kSt (K := K)) p (D.map (·.1)) :: L) (Q (.ref p))) : Ent L fun H => rListKT K w [.ref d] H Q := fun H h => by
  refine ⟨d, _, rfl, k, fun p np => q p _ ?_⟩
  rw [List.map_map]
  refine h.ls_new np ?_
  rw [List.all_eq_true] at hs
  clear q k
  induction D with
  | nil => exact .nil
  | cons x D ih => exact .cons ⟨rfl, hs x (List.mem_cons_self ..)⟩ (ih fun y hy => hs y (List.mem_cons_of_mem _ hy))
def kKG (K : PySem.W.Frag) (w : World) (ty tx : TE) (σ : L2.St) (Q : VK) (x : V) (H1 : Hp) : Prop := ∃ a T, x = .ref a ∧ KTab K w a T ∧ ty σ H1 fun y H2 => tx σ H2 fun z H3 => ∃ s, y = .str s ∧ Q ((dlk T s).getD z) H3
def kKGD (T : List (Str × V)) (Q : VK) (y z : V) (H3 : Hp) : Prop := ∃ s, y = .str s ∧ Q ((dlk T s).getD z) H3
theorem e_kget0 (q : Ent L fun H => td σ H fun x H1 => kKG K w ty tx σ Q x H1) : Ent L fun H => tKGet2 K w td ty tx σ H Q := q
theorem c_kget1 {T : List (Str × V)} (k : KTab K w d T) (q : Ent L fun H => ty σ H fun y H2 => tx σ H2 fun z H3 => kKGD T Q y z H3) : Ent L fun H => kKG K w ty tx σ Q (.ref d) H := fun H h => ⟨d, T, rfl, k, q H h⟩
theorem c_kget2S {D : List (Str × Str)} {z : Str} (q : Ent L (Q (.str ((dlk D s).getD z)))) : Ent L fun H => kKGD (D.map fun p => (p.1, V.str p.2)) Q (.str s) (.str z) H := fun H h => ⟨s, rfl, by
  rw [dlk_map]
  have e : ((dlk D s).map V.str).getD (.str z) = .str ((dlk D s).getD z) := by cases dlk D s <;> rfl
  rw [e]
  exact q H h⟩
theorem c_kget2I {D : List (Str × Int)} {z : Int} (q : Ent L (Q (.int ((dlk D s).getD z)))) : Ent L fun H => kKGD (D.map fun p => (p.1, V.int p.2)) Q (.str s) (.int z) H := fun H h => ⟨s, rfl, by
  rw [dlk_map]
  have e : ((dlk D s).map V.int).getD (.int z) = .int ((dlk D s).getD z) := by cases dlk D s <;> rfl
  rw [e]
  exact q H h⟩
/-! ## a text or a number -/
theorem c_getU0S {o : Str ⊕ β} {k : Str → Prop} (hm : obu0 o k) (t : Take (vl (kU (kSt (K := K)) F) v o) L R) (q : ∀ w, k w → v = .str w → Ent L φ) : Ent L φ := fun H h => by
  obtain ⟨w, e, hk⟩ : ∃ w, o = .inl w ∧ k w := by
    cases o with
    | inl x => rw [obu0_l] at hm; exact ⟨x, rfl, hm⟩
    | inr w => simp [obu0] at hm
  subst e
  obtain ⟨S, S1, S2, h1, _⟩ := t.to h
  exact q w hk h1.1.1 H h
theorem c_isiUS {o : Str ⊕ Int} (t : Take (vl (kU (kSt (K := K)) kI) v o) L R) (q : Ent L (Q (.bl o.isLeft))) : Ent L fun H => rIsi K [v, .ty "str"] H Q := fun H h => by
  have z := t.vl h
  cases o with
  | inl x =>
    obtain ⟨rfl, _⟩ := z
    exact e_isi (r := true) (ty_S x) (.ty _) (kit_ty (by decide +kernel)) q H h
  | inr x =>
    obtain rfl : v = .int x := z
    exact e_isi (r := false) (ty_I x) (.ty _) (kit_ty (by decide +kernel)) q H h
/-! ## tuples of any length, however they stand -/
theorem is_kTu {xs : List α} (t : Take (tu a us) L R) (h : ∀ H, Holds L H → All2 (E.P H) us xs) : Is (kT E) L (.ref a) xs := fun H z => ⟨a, us, rfl, SqT.of (t.im z), h H z⟩
theorem is_kTq {xs : List α} {us : List V} (h : HasT K L a us) (g : ∀ H, Holds L H → All2 (E.P H) us xs) : Is (kT E) L (.ref a) xs := fun H z => ⟨a, us, rfl, h H z, g H z⟩
theorem is_kTr {xs : List β} (h : Is (kT F) L v xs) : Is (kT (kU E F)) L v (xs.map .inr) := fun H z => by
  obtain ⟨a, us, e, h1, h2⟩ := h H z
  refine ⟨a, us, e, h1, ?_⟩
  clear h1 e h
  induction h2 with
  | nil => exact .nil
  | cons hp _ ih => exact .cons hp ih
theorem is_kTl {xs : List α} (h : Is (kT E) L v xs) : Is (kT (kU E F)) L v (xs.map .inl) := fun H z => by
  obtain ⟨a, us, e, h1, h2⟩ := h H z
  refine ⟨a, us, e, h1, ?_⟩
  clear h1 e h
  induction h2 with
  | nil => exact .nil
  | cons hp _ ih => exact .cons hp ih
theorem repTA {X : Cx} (h : X.K = K := by rfl) : OpR X (binaryOp .Mult) (rRepTA K) := h ▸ op_repTA
theorem c_repKT {n : Int} {xs : List α} {k : Prop} (hm : grd (-1000 ≤ n ∧ n ≤ 1000 ∧ xs.length ≤ 1000) k) (h : Is (kT E) L v xs) (q : k → ∀ p, Ent (vl (kT E) (.ref p) (List.replicate n.toNat xs).flatten :: L) (Q (.ref p))) : Ent L fun H => rRepTA K v (.int n) H Q := fun H z => by
  obtain ⟨a, us, rfl, h1, h2⟩ := h H z
  have hq := q hm.2
  refine ⟨a, n, us, rfl, rfl, h1, hm.1.1, hm.1.2.1, by rw [h2.len]; exact hm.1.2.2, fun e => ?_, fun _ p np => ?_⟩
  · refine hq a H (z.vl ?_)
    rcases e with e | e
    · subst e
      cases h2
      have : (List.replicate n.toNat ([] : List α)).flatten = [] := by simp
      rw [this]
      exact ⟨a, [], rfl, h1, .nil⟩
    · subst e
      have : (List.replicate (1 : Int).toNat xs).flatten = xs := by show (List.replicate 1 xs).flatten = xs; simp
      rw [this]
      exact ⟨a, us, rfl, h1, h2⟩
  · have h5 : Holds L (L2.upd H p (.tup (List.replicate n.toNat us).flatten)) := Sub.to (Sub.drop Sub.refl) (z.newI (o := .tup (List.replicate n.toNat us).flatten) np rfl)
    refine hq p _ (h5.vl ⟨p, _, rfl, SqT.of upd_same, ?_⟩)
    have h6 : All2 (E.P (L2.upd H p (.tup (List.replicate n.toNat us).flatten))) us xs := h2.imp fun _ _ y => E.st y (keepI_new np)
    clear hq h5
    generalize L2.upd H p (.tup (List.replicate n.toNat us).flatten) = H' at h6 ⊢
    generalize n.toNat = m
    induction m with
    | zero => exact .nil
    | succ m ih =>
      rw [List.replicate_succ, List.replicate_succ, List.flatten_cons, List.flatten_cons]
      exact h6.app ih
theorem c_catKI {xs ys : List α} {k : Prop} (hm : grd (xs.length + ys.length ≤ 100000) k) (h : Is (kT E) L v xs) (g : Is (kT E) L u ys) (q : k → ∀ p, Ent (vl (kT E) (.ref p) (xs ++ ys) :: L) (Q (.ref p))) : Ent L fun H => rCatA K v u H Q := fun H z => by
  have z2 := (z.vl (h H z)).vl (g H z)
  exact c_catKT (L := vl (kT E) u ys :: vl (kT E) v xs :: L) (take_there take_here) take_here hm (fun hk p => Ent.sub (Sub.cons (Sub.drop (Sub.drop Sub.refl))) (q hk p)) H z2
theorem c_slKI {xs : List α} {lo hi : Option Int} (h : Is (kT E) L v xs) (q : ∀ p, Ent (vl (kT E) (.ref p) (cutA xs lo hi) :: L) (Q (.ref p))) : Ent L fun H => rSlA K v lo hi H Q := fun H z => by
  have z2 := z.vl (h H z)
  exact c_slKT (L := vl (kT E) v xs :: L) take_here (fun p => Ent.sub (Sub.cons (Sub.drop Sub.refl)) (q p)) H z2
/-! ## sets of a tuple's numbers -/
def rSetTI (w : World) (K : PySem.W.Frag) : List V → Hp → VK → Prop := fun xs H Q => ∃ (l : Addr) (ns : List Int), xs = [V.ref l] ∧ SqT K H l (ns.map V.int) ∧ ns.length + 1 < scanBound ∧
  ∀ (p : Addr) (c : Nat), H p = none → c ≤ ns.length → Q (.ref p) (L2.upd H p (SetO w p (fun j => decide (j ∈ ns)) c))
theorem cr_setTI {X : Cx} (hc : X.calm = true := by rfl) (hw : X.w = w := by rfl) (hK : X.K = K := by rfl) : CallR X (.type "set") (rSetTI w K) := by
  subst hw hK
  intro pins s σ H xs us Q I r h
  obtain ⟨l, ns, rfl, hq, hb, q⟩ := h
  rw [Vals.ref1 r]
  obtain ⟨its, rv, pl, hz⟩ := I.tuple hq
  refine call_set_tupI ns (I.ok.hd hc) (show s.heap.IsTuple l its.toArray from pl) (ints_of_vals rv) hb fun h' tk c hS hcn hk => ?_
  exact ⟨.ref _, L2.upd H s.heap.objs.size (SetO X.w s.heap.objs.size (fun j => decide (j ∈ ns)) c), I.laid (t' := tk) hk (Nat.le_refl _) (setO_new hS), rfl, q _ c (I.hok.fresh (Nat.le_refl _)) hcn⟩
theorem intsU_vals {H : Hp} : ∀ {xs : List (Str ⊕ Int)} {ns : List Int} {vs : List V}, intsU xs = some ns → All2 ((kU (kSt (K := K)) kI).P H) vs xs → vs = ns.map V.int
  | [], ns, _, e, .nil => by cases e; rfl
  | .inr i :: r, ns, _, e, .cons h t => by
    obtain ⟨ms, e1, e2⟩ := Option.map_eq_some_iff.mp e
    subst e2
    have h' : _ = V.int i := h
    rw [h', intsU_vals e1 t]
    rfl
theorem c_setU {xs : List (Str ⊕ Int)} {k : List Int → Prop} (hm : obx (intsU xs) fun ns => grd (ns.length < 64) (k ns)) (t : Take (vl (kT (kU (kSt (K := K)) kI)) v xs) L R) (q : ∀ ns, k ns → ∀ p c, c < 64 → Ent (pt p (SetO w p (fun j => decide (j ∈ ns)) c) :: L) (Q (.ref p))) : Ent L fun H => rSetTI w K [v] H Q := fun H h => by
  obtain ⟨ns, e, hl, hk⟩ := hm
  obtain ⟨a, vs, rfl, h1, h2⟩ := t.vl h
  obtain rfl := intsU_vals e h2
  exact ⟨a, ns, rfl, h1, by unfold scanBound; omega, fun p c np hc => q ns hk p c (by omega) _ (h.new np rfl)⟩
end
theorem c_inS1 {K : PySem.W.Frag} {L : List HA} {Q : VK} {s x0 : Str} {p : Addr} (h : HasT K L p [.str x0]) (q : Ent L (Q (.bl (decide (s ∈ ([x0] : List Str)))))) : Ent L fun H => rIn K false (.str s) (.ref p) H Q := c_inHS [x0] h q
theorem c_niS1 {K : PySem.W.Frag} {L : List HA} {Q : VK} {s x0 : Str} {p : Addr} (h : HasT K L p [.str x0]) (q : Ent L (Q (.bl (!decide (s ∈ ([x0] : List Str)))))) : Ent L fun H => rIn K true (.str s) (.ref p) H Q := c_niHS [x0] h q
theorem c_inS2 {K : PySem.W.Frag} {L : List HA} {Q : VK} {s x0 x1 : Str} {p : Addr} (h : HasT K L p [.str x0, .str x1]) (q : Ent L (Q (.bl (decide (s ∈ ([x0, x1] : List Str)))))) : Ent L fun H => rIn K false (.str s) (.ref p) H Q := c_inHS [x0, x1] h q
theorem c_niS2 {K : PySem.W.Frag} {L : List HA} {Q : VK} {s x0 x1 : Str} {p : Addr} (h : HasT K L p [.str x0, .str x1]) (q : Ent L (Q (.bl (!decide (s ∈ ([x0, x1] : List Str)))))) : Ent L fun H => rIn K true (.str s) (.ref p) H Q := c_niHS [x0, x1] h q
theorem c_inS3 {K : PySem.W.Frag} {L : List HA} {Q : VK} {s x0 x1 x2 : Str} {p : Addr} (h : HasT K L p [.str x0, .str x1, .str x2]) (q : Ent L (Q (.bl (decide (s ∈ ([x0, x1, x2] : List Str)))))) : Ent L fun H => rIn K false (.str s) (.ref p) H Q := c_inHS [x0, x1, x2] h q
theorem c_niS3 {K : PySem.W.Frag} {L : List HA} {Q : VK} {s x0 x1 x2 : Str} {p : Addr} (h : HasT K L p [.str x0, .str x1, .str x2]) (q : Ent L (Q (.bl (!decide (s ∈ ([x0, x1, x2] : List Str)))))) : Ent L fun H => rIn K true (.str s) (.ref p) H Q := c_niHS [x0, x1, x2] h q
theorem c_inS4 {K : PySem.W.Frag} {L : List HA} {Q : VK} {s x0 x1 x2 x3 : Str} {p : Addr} (h : HasT K L p [.str x0, .str x1, .str x2, .str x3]) (q : Ent L (Q (.bl (decide (s ∈ ([x0, x1, x2, x3] : List Str)))))) : Ent L fun H => rIn K false (.str s) (.ref p) H Q := c_inHS [x0, x1, x2, x3] h q
theorem c_niS4 {K : PySem.W.Frag} {L : List HA} {Q : VK} {s x0 x1 x2 x3 : Str} {p : Addr} (h : HasT K L p [.str x0, .str x1, .str x2, .str x3]) (q : Ent L (Q (.bl (!decide (s ∈ ([x0, x1, x2, x3] : List Str)))))) : Ent L fun H => rIn K true (.str s) (.ref p) H Q := c_niHS [x0, x1, x2, x3] h q
theorem c_inS5 {K : PySem.W.Frag} {L : List HA} {Q : VK} {s x0 x1 x2 x3 x4 : Str} {p : Addr} (h : HasT K L p [.str x0, .str x1, .str x2, .str x3, .str x4]) (q : Ent L (Q (.bl (decide (s ∈ ([x0, x1, x2, x3, x4] : List Str)))))) : Ent L fun H => rIn K false (.str s) (.ref p) H Q := c_inHS [x0, x1, x2, x3, x4] h q
theorem c_niS5 {K : PySem.W.Frag} {L : List HA} {Q : VK} {s x0 x1 x2 x3 x4 : Str} {p : Addr} (h : HasT K L p [.str x0, .str x1, .str x2, .str x3, .str x4]) (q : Ent L (Q (.bl (!decide (s ∈ ([x0, x1, x2, x3, x4] : List Str)))))) : Ent L fun H => rIn K true (.str s) (.ref p) H Q := c_niHS [x0, x1, x2, x3, x4] h q
theorem c_inS6 {K : PySem.W.Frag} {L : List HA} {Q : VK} {s x0 x1 x2 x3 x4 x5 : Str} {p : Addr} (h : HasT K L p [.str x0, .str x1, .str x2, .str x3, .str x4, .str x5]) (q : Ent L (Q (.bl (decide (s ∈ ([x0, x1, x2, x3, x4, x5] : List Str)))))) : Ent L fun H => rIn K false (.str s) (.ref p) H Q := c_inHS [x0, x1, x2, x3, x4, x5] h q
theorem c_niS6 {K : PySem.W.Frag} {L : List HA} {Q : VK} {s x0 x1 x2 x3 x4 x5 : Str} {p : Addr} (h : HasT K L p [.str x0, .str x1, .str x2, .str x3, .str x4, .str x5]) (q : Ent L (Q (.bl (!decide (s ∈ ([x0, x1, x2, x3, x4, x5] : List Str)))))) : Ent L fun H => rIn K true (.str s) (.ref p) H Q := c_niHS [x0, x1, x2, x3, x4, x5] h q
theorem c_inS7 {K : PySem.W.Frag} {L : List HA} {Q : VK} {s x0 x1 x2 x3 x4 x5 x6 : Str} {p : Addr} (h : HasT K L p [.str x0, .str x1, .str x2, .str x3, .str x4, .str x5, .str x6]) (q : Ent L (Q (.bl (decide (s ∈ ([x0, x1, x2, x3, x4, x5, x6] : List Str)))))) : Ent L fun H => rIn K false (.str s) (.ref p) H Q := c_inHS [x0, x1, x2, x3, x4, x5, x6] h q
theorem c_niS7 {K : PySem.W.Frag} {L : List HA} {Q : VK} {s x0 x1 x2 x3 x4 x5 x6 : Str} {p : Addr} (h : HasT K L p [.str x0, .str x1, .str x2, .str x3, .str x4, .str x5, .str x6]) (q : Ent L (Q (.bl (!decide (s ∈ ([x0, x1, x2, x3, x4, x5, x6] : List Str)))))) : Ent L fun H => rIn K true (.str s) (.ref p) H Q := c_niHS [x0, x1, x2, x3, x4, x5, x6] h q
theorem c_inS8 {K : PySem.W.Frag} {L : List HA} {Q : VK} {s x0 x1 x2 x3 x4 x5 x6 x7 : Str} {p : Addr} (h : HasT K L p [.str x0, .str x1, .str x2, .str x3, .str x4, .str x5, .str x6, .str x7]) (q : Ent L (Q (.bl (decide (s ∈ ([x0, x1, x2, x3, x4, x5, x6, x7] : List Str)))))) : Ent L fun H => rIn K false (.str s) (.ref p) H Q := c_inHS [x0, x1, x2, x3, x4, x5, x6, x7] h q
theorem c_niS8 {K : PySem.W.Frag} {L : List HA} {Q : VK} {s x0 x1 x2 x3 x4 x5 x6 x7 : Str} {p : Addr} (h : HasT K L p [.str x0, .str x1, .str x2, .str x3, .str x4, .str x5, .str x6, .str x7]) (q : Ent L (Q (.bl (!decide (s ∈ ([x0, x1, x2, x3, x4, x5, x6, x7] : List Str)))))) : Ent L fun H => rIn K true (.str s) (.ref p) H Q := c_niHS [x0, x1, x2, x3, x4, x5, x6, x7] h q
theorem c_inS9 {K : PySem.W.Frag} {L : List HA} {Q : VK} {s x0 x1 x2 x3 x4 x5 x6 x7 x8 : Str} {p : Addr} (h : HasT K L p [.str x0, .str x1, .str x2, .str x3, .str x4, .str x5, .str x6, .str x7, .str x8]) (q : Ent L (Q (.bl (decide (s ∈ ([x0, x1, x2, x3, x4, x5, x6, x7, x8] : List Str)))))) : Ent L fun H => rIn K false (.str s) (.ref p) H Q := c_inHS [x0, x1, x2, x3, x4, x5, x6, x7, x8] h q
theorem c_niS9 {K : PySem.W.Frag} {L : List HA} {Q : VK} {s x0 x1 x2 x3 x4 x5 x6 x7 x8 : Str} {p : Addr} (h : HasT K L p [.str x0, .str x1, .str x2, .str x3, .str x4, .str x5, .str x6, .str x7, .str x8]) (q : Ent L (Q (.bl (!decide (s ∈ ([x0, x1, x2, x3, x4, x5, x6, x7, x8] : List Str)))))) : Ent L fun H => rIn K true (.str s) (.ref p) H Q := c_niHS [x0, x1, x2, x3, x4, x5, x6, x7, x8] h q
theorem c_inS10 {K : PySem.W.Frag} {L : List HA} {Q : VK} {s x0 x1 x2 x3 x4 x5 x6 x7 x8 x9 : Str} {p : Addr} (h : HasT K L p [.str x0, .str x1, .str x2, .str x3, .str x4, .str x5, .str x6, .str x7, .str x8, .str x9]) (q : Ent L (Q (.bl (decide (s ∈ ([x0, x1, x2, x3, x4, x5, x6, x7, x8, x9] : List Str)))))) : Ent L fun H => rIn K false (.str s) (.ref p) H Q := c_inHS [x0, x1, x2, x3, x4, x5, x6, x7, x8, x9] h q
theorem c_niS10 {K : PySem.W.Frag} {L : List HA} {Q : VK} {s x0 x1 x2 x3 x4 x5 x6 x7 x8 x9 : Str} {p : Addr} (h : HasT K L p [.str x0, .str x1, .str x2, .str x3, .str x4, .str x5, .str x6, .str x7, .str x8, .str x9]) (q : Ent L (Q (.bl (!decide (s ∈ ([x0, x1, x2, x3, x4, x5, x6, x7, x8, x9] : List Str)))))) : Ent L fun H => rIn K true (.str s) (.ref p) H Q := c_niHS [x0, x1, x2, x3, x4, x5, x6, x7, x8, x9] h q
theorem c_inS11 {K : PySem.W.Frag} {L : List HA} {Q : VK} {s x0 x1 x2 x3 x4 x5 x6 x7 x8 x9 x10 : Str} {p : Addr} (h : HasT K L p [.str x0, .str x1, .str x2, .str x3, .str x4, .str x5, .str x6, .str x7, .str x8, .str x9, .str x10]) (q : Ent L (Q (.bl (decide (s ∈ ([x0, x1, x2, x3, x4, x5, x6, x7, x8, x9, x10] : List Str)))))) : Ent L fun H => rIn K false (.str s) (.ref p) H Q := c_inHS [x0, x1, x2, x3, x4, x5, x6, x7, x8, x9, x10] h q
theorem c_niS11 {K : PySem.W.Frag} {L : List HA} {Q : VK} {s x0 x1 x2 x3 x4 x5 x6 x7 x8 x9 x10 : Str} {p : Addr} (h : HasT K L p [.str x0, .str x1, .str x2, .str x3, .str x4, .str x5, .str x6, .str x7, .str x8, .str x9, .str x10]) (q : Ent L (Q (.bl (!decide (s ∈ ([x0, x1, x2, x3, x4, x5, x6, x7, x8, x9, x10] : List Str)))))) : Ent L fun H => rIn K true (.str s) (.ref p) H Q := c_niHS [x0, x1, x2, x3, x4, x5, x6, x7, x8, x9, x10] h q
theorem c_inS12 {K : PySem.W.Frag} {L : List HA} {Q : VK} {s x0 x1 x2 x3 x4 x5 x6 x7 x8 x9 x10 x11 : Str} {p : Addr} (h : HasT K L p [.str x0, .str x1, .str x2, .str x3, .str x4, .str x5, .str x6, .str x7, .str x8, .str x9, .str x10, .str x11]) (q : Ent L (Q (.bl (decide (s ∈ ([x0, x1, x2, x3, x4, x5, x6, x7, x8, x9, x10, x11] : List Str)))))) : Ent L fun H => rIn K false (.str s) (.ref p) H Q := c_inHS [x0, x1, x2, x3, x4, x5, x6, x7, x8, x9, x10, x11] h q
theorem c_niS12 {K : PySem.W.Frag} {L : List HA} {Q : VK} {s x0 x1 x2 x3 x4 x5 x6 x7 x8 x9 x10 x11 : Str} {p : Addr} (h : HasT K L p [.str x0, .str x1, .str x2, .str x3, .str x4, .str x5, .str x6, .str x7, .str x8, .str x9, .str x10, .str x11]) (q : Ent L (Q (.bl (!decide (s ∈ ([x0, x1, x2, x3, x4, x5, x6, x7, x8, x9, x10, x11] : List Str)))))) : Ent L fun H => rIn K true (.str s) (.ref p) H Q := c_niHS [x0, x1, x2, x3, x4, x5, x6, x7, x8, x9, x10, x11] h q
section
variable {K : PySem.W.Frag} {w : World} {α β : Type} {L R : List HA} {Q : VK} {E : El K α} {v x : V} {σ : L2.St} {te ta : TE} {s : Str} {d : Addr}
/-- a comprehension over a tuple -/
def kLcT (K : PySem.W.Frag) (g : TG) (tt : TT) (te : TE) (vs : List Nat) (σ : L2.St) (Q : VK) (x : V) (H : Hp) : Prop := tLc (iTup K (tC x)) g tt te vs σ H Q
theorem e_lcT0 {g : TG} {tt : TT} {vs : List Nat} (q : Ent L fun H => ta σ H fun x H1 => kLcT K g tt te vs σ Q x H1) : Ent L fun H => tLc (iTup K ta) g tt te vs σ H Q := q
theorem c_lcKT {xs : List α} {bd : α → (Option β → Prop) → Prop} {k : List β → Prop} {g : TG} {tt : TT} {vs : List Nat} (E' : El K β) (hm : grd (xs.length ≤ 100000) (lcL xs [] bd k)) (t : Is (kT E) L v xs)
    (step : ∀ x (nxt : Option β → Prop), bd x nxt → ∀ v D ys (r : VK) (s : Hp → Prop), (∀ v' y, nxt (some y) → Ent (vl E' v' y :: ls E' D ys :: L) (r v')) → (nxt none → Ent (ls E' D ys :: L) s) → Ent (vl E v x :: ls E' D ys :: L) fun H => g v (wipe σ vs) H fun σ2 H2 => wipe σ2 vs = wipe σ vs ∧ tt σ2 H2 fun b H3 => if b = true then te σ2 H3 r else s H3)
    (q : ∀ ys, k ys → ∀ D, Ent (ls E' D ys :: L) (Q (.ref D))) : Ent L fun H => kLcT K g tt te vs σ Q v H := fun H h => by
  obtain ⟨a, ws, rfl, h1, _⟩ := t H h
  refine ⟨_, rfl, ⟨ws, h1⟩, lcSq_core E' walk_sqT (fun H h => ?_) hm step q h⟩
  obtain ⟨b, us, e, z1, z2⟩ := t H h
  cases e
  exact ⟨us, z1, z2⟩
theorem c_inSqS {xs : List Str} (h : SqAt (kSt (K := K)) L v xs) (q : Ent L (Q (.bl (decide (s ∈ xs))))) : Ent L fun H => rIn K false (.str s) v H Q := fun H z => by
  cases h with
  | lst h =>
    obtain ⟨vs, h1, h2⟩ := h H z
    obtain rfl := strs_of h2
    exact ⟨_, _, rfl, .inl h1, rfl, flat_strs _, by rw [inV_str]; exact q H z⟩
  | tup h =>
    obtain ⟨a, vs, rfl, h1, h2⟩ := h H z
    obtain rfl := strs_of h2
    exact ⟨_, _, rfl, .inr h1, rfl, flat_strs _, by rw [inV_str]; exact q H z⟩
theorem c_niSqS {xs : List Str} (h : SqAt (kSt (K := K)) L v xs) (q : Ent L (Q (.bl (!decide (s ∈ xs))))) : Ent L fun H => rIn K true (.str s) v H Q := fun H z => by
  cases h with
  | lst h =>
    obtain ⟨vs, h1, h2⟩ := h H z
    obtain rfl := strs_of h2
    exact ⟨_, _, rfl, .inl h1, rfl, flat_strs _, by rw [inV_str]; exact q H z⟩
  | tup h =>
    obtain ⟨a, vs, rfl, h1, h2⟩ := h H z
    obtain rfl := strs_of h2
    exact ⟨_, _, rfl, .inr h1, rfl, flat_strs _, by rw [inV_str]; exact q H z⟩
theorem c_lenKTD {f : α → V} {D : List (Str × α)} (k : KTab K w d (D.map fun p => (p.1, f p.2))) (q : Ent L (Q (.int D.length))) : Ent L fun H => rLenKT K w [.ref d] H Q := fun H h => ⟨d, _, rfl, k, by rw [List.length_map]; exact q H h⟩
theorem c_inI1 {i x0 : Int} {p : Addr} (h : HasT K L p [.int x0]) (q : Ent L (Q (.bl (decide (i ∈ ([x0] : List Int)))))) : Ent L fun H => rIn K false (.int i) (.ref p) H Q := fun H z => ⟨p, [x0].map V.int, rfl, .inr (h H z), rfl, flat_ints _, by rw [inV_int]; exact q H z⟩
theorem c_niI1 {i x0 : Int} {p : Addr} (h : HasT K L p [.int x0]) (q : Ent L (Q (.bl (!decide (i ∈ ([x0] : List Int)))))) : Ent L fun H => rIn K true (.int i) (.ref p) H Q := fun H z => ⟨p, [x0].map V.int, rfl, .inr (h H z), rfl, flat_ints _, by rw [inV_int]; exact q H z⟩
theorem c_inI2 {i x0 x1 : Int} {p : Addr} (h : HasT K L p [.int x0, .int x1]) (q : Ent L (Q (.bl (decide (i ∈ ([x0, x1] : List Int)))))) : Ent L fun H => rIn K false (.int i) (.ref p) H Q := fun H z => ⟨p, [x0, x1].map V.int, rfl, .inr (h H z), rfl, flat_ints _, by rw [inV_int]; exact q H z⟩
theorem c_niI2 {i x0 x1 : Int} {p : Addr} (h : HasT K L p [.int x0, .int x1]) (q : Ent L (Q (.bl (!decide (i ∈ ([x0, x1] : List Int)))))) : Ent L fun H => rIn K true (.int i) (.ref p) H Q := fun H z => ⟨p, [x0, x1].map V.int, rfl, .inr (h H z), rfl, flat_ints _, by rw [inV_int]; exact q H z⟩
theorem c_inI3 {i x0 x1 x2 : Int} {p : Addr} (h : HasT K L p [.int x0, .int x1, .int x2]) (q : Ent L (Q (.bl (decide (i ∈ ([x0, x1, x2] : List Int)))))) : Ent L fun H => rIn K false (.int i) (.ref p) H Q := fun H z => ⟨p, [x0, x1, x2].map V.int, rfl, .inr (h H z), rfl, flat_ints _, by rw [inV_int]; exact q H z⟩
theorem c_niI3 {i x0 x1 x2 : Int} {p : Addr} (h : HasT K L p [.int x0, .int x1, .int x2]) (q : Ent L (Q (.bl (!decide (i ∈ ([x0, x1, x2] : List Int)))))) : Ent L fun H => rIn K true (.int i) (.ref p) H Q := fun H z => ⟨p, [x0, x1, x2].map V.int, rfl, .inr (h H z), rfl, flat_ints _, by rw [inV_int]; exact q H z⟩
theorem c_inI4 {i x0 x1 x2 x3 : Int} {p : Addr} (h : HasT K L p [.int x0, .int x1, .int x2, .int x3]) (q : Ent L (Q (.bl (decide (i ∈ ([x0, x1, x2, x3] : List Int)))))) : Ent L fun H => rIn K false (.int i) (.ref p) H Q := fun H z => ⟨p, [x0, x1, x2, x3].map V.int, rfl, .inr (h H z), rfl, flat_ints _, by rw [inV_int]; exact q H z⟩
theorem c_niI4 {i x0 x1 x2 x3 : Int} {p : Addr} (h : HasT K L p [.int x0, .int x1, .int x2, .int x3]) (q : Ent L (Q (.bl (!decide (i ∈ ([x0, x1, x2, x3] : List Int)))))) : Ent L fun H => rIn K true (.int i) (.ref p) H Q := fun H z => ⟨p, [x0, x1, x2, x3].map V.int, rfl, .inr (h H z), rfl, flat_ints _, by rw [inV_int]; exact q H z⟩
theorem c_inI5 {i x0 x1 x2 x3 x4 : Int} {p : Addr} (h : HasT K L p [.int x0, .int x1, .int x2, .int x3, .int x4]) (q : Ent L (Q (.bl (decide (i ∈ ([x0, x1, x2, x3, x4] : List Int)))))) : Ent L fun H => rIn K false (.int i) (.ref p) H Q := fun H z => ⟨p, [x0, x1, x2, x3, x4].map V.int, rfl, .inr (h H z), rfl, flat_ints _, by rw [inV_int]; exact q H z⟩
theorem c_niI5 {i x0 x1 x2 x3 x4 : Int} {p : Addr} (h : HasT K L p [.int x0, .int x1, .int x2, .int x3, .int x4]) (q : Ent L (Q (.bl (!decide (i ∈ ([x0, x1, x2, x3, x4] : List Int)))))) : Ent L fun H => rIn K true (.int i) (.ref p) H Q := fun H z => ⟨p, [x0, x1, x2, x3, x4].map V.int, rfl, .inr (h H z), rfl, flat_ints _, by rw [inV_int]; exact q H z⟩
theorem c_inI6 {i x0 x1 x2 x3 x4 x5 : Int} {p : Addr} (h : HasT K L p [.int x0, .int x1, .int x2, .int x3, .int x4, .int x5]) (q : Ent L (Q (.bl (decide (i ∈ ([x0, x1, x2, x3, x4, x5] : List Int)))))) : Ent L fun H => rIn K false (.int i) (.ref p) H Q := fun H z => ⟨p, [x0, x1, x2, x3, x4, x5].map V.int, rfl, .inr (h H z), rfl, flat_ints _, by rw [inV_int]; exact q H z⟩
theorem c_niI6 {i x0 x1 x2 x3 x4 x5 : Int} {p : Addr} (h : HasT K L p [.int x0, .int x1, .int x2, .int x3, .int x4, .int x5]) (q : Ent L (Q (.bl (!decide (i ∈ ([x0, x1, x2, x3, x4, x5] : List Int)))))) : Ent L fun H => rIn K true (.int i) (.ref p) H Q := fun H z => ⟨p, [x0, x1, x2, x3, x4, x5].map V.int, rfl, .inr (h H z), rfl, flat_ints _, by rw [inV_int]; exact q H z⟩
theorem c_inI7 {i x0 x1 x2 x3 x4 x5 x6 : Int} {p : Addr} (h : HasT K L p [.int x0, .int x1, .int x2, .int x3, .int x4, .int x5, .int x6]) (q : Ent L (Q (.bl (decide (i ∈ ([x0, x1, x2, x3, x4, x5, x6] : List Int)))))) : Ent L fun H => rIn K false (.int i) (.ref p) H Q := fun H z => ⟨p, [x0, x1, x2, x3, x4, x5, x6].map V.int, rfl, .inr (h H z), rfl, flat_ints _, by rw [inV_int]; exact q H z⟩
theorem c_niI7 {i x0 x1 x2 x3 x4 x5 x6 : Int} {p : Addr} (h : HasT K L p [.int x0, .int x1, .int x2, .int x3, .int x4, .int x5, .int x6]) (q : Ent L (Q (.bl (!decide (i ∈ ([x0, x1, x2, x3, x4, x5, x6] : List Int)))))) : Ent L fun H => rIn K true (.int i) (.ref p) H Q := fun H z => ⟨p, [x0, x1, x2, x3, x4, x5, x6].map V.int, rfl, .inr (h H z), rfl, flat_ints _, by rw [inV_int]; exact q H z⟩
theorem c_inI8 {i x0 x1 x2 x3 x4 x5 x6 x7 : Int} {p : Addr} (h : HasT K L p [.int x0, .int x1, .int x2, .int x3, .int x4, .int x5, .int x6, .int x7]) (q : Ent L (Q (.bl (decide (i ∈ ([x0, x1, x2, x3, x4, x5, x6, x7] : List Int)))))) : Ent L fun H => rIn K false (.int i) (.ref p) H Q := fun H z => ⟨p, [x0, x1, x2, x3, x4, x5, x6, x7].map V.int, rfl, .inr (h H z), rfl, flat_ints _, by rw [inV_int]; exact q H z⟩
theorem c_niI8 {i x0 x1 x2 x3 x4 x5 x6 x7 : Int} {p : Addr} (h : HasT K L p [.int x0, .int x1, .int x2, .int x3, .int x4, .int x5, .int x6, .int x7]) (q : Ent L (Q (.bl (!decide (i ∈ ([x0, x1, x2, x3, x4, x5, x6, x7] : List Int)))))) : Ent L fun H => rIn K true (.int i) (.ref p) H Q := fun H z => ⟨p, [x0, x1, x2, x3, x4, x5, x6, x7].map V.int, rfl, .inr (h H z), rfl, flat_ints _, by rw [inV_int]; exact q H z⟩
end
end Toy
namespace Toy
open PySem L2 PySem.Spec PyProof.Rows RZ
def uD (x : Str ⊕ Int) : PyData := (kU (K := default) kSt kI).d x
section
variable {K : PySem.W.Frag} {α β M B : Type} {L R R' : List HA} {Q : VK} {E : El K α} {F : El K β} {v u : V} {nx bk ct : L2.St → Hp → Prop} {rt : VK} {σ : L2.St} {tas : TA}
theorem e_isBl {a b : Bool} (q : Ent L (Q (.bl (decide (a = b))))) : Ent L fun H => rIsB (.bl a) (.bl b) H Q := fun H h => ⟨a, b, rfl, rfl, q H h⟩
theorem e_notBl {a b : Bool} (q : Ent L (Q (.bl (!decide (a = b))))) : Ent L fun H => rNotB (.bl a) (.bl b) H Q := fun H h => ⟨a, b, rfl, rfl, q H h⟩
/-! ## loops over zip: two tuples, or two lists -/
def kZipA (K : PySem.W.Frag) (R : It → Hp → Prop) (vs : List V) (H1 : Hp) : Prop := ∃ a b xs ys, vs = [.ref a, .ref b] ∧ ((SqL K H1 a xs ∧ SqL K H1 b ys ∧ R (Itz K a b) H1) ∨ (SqT K H1 a xs ∧ SqT K H1 b ys ∧ R (ItzT K a b) H1))
theorem e_forZA {g : TG} {tb : TS} (q : Ent L fun H => tas σ H fun us H1 => kZipA K (kLoop g tb ⟨nx, rt, bk, ct⟩ σ) us H1) : Ent L fun H => tFor (iZipA K tas) g tb ⟨nx, rt, bk, ct⟩ σ H := q
theorem zip_get {xs : List α} {ys : List β} {i : Nat} {x : α} {y : β} (h1 : xs[i]? = some x) (h2 : ys[i]? = some y) : (List.zip xs ys)[i]? = some (x, y) := by
  rw [List.getElem?_zip_eq_some]
  exact ⟨h1, h2⟩
theorem walk_zipT (xs : List α) (ys : List β) (a b : Addr) : Walk (ItzT K a b) (List.zip xs ys).length (fun H => (kT E).P H (.ref a) xs ∧ (kT F).P H (.ref b) ys) (fun i H v H' => ∃ T u w x y, v = .ref T ∧ H T = none ∧ H' = L2.upd H T (.tup [u, w]) ∧ (List.zip xs ys)[i]? = some (x, y) ∧ E.P H u x ∧ F.P H w y) :=
  ⟨fun i H hi ⟨⟨a', us, e, h1, h2⟩, ⟨b', ws, e', g1, g2⟩⟩ => by
    cases e; cases e'
    rw [List.length_zip] at hi
    obtain ⟨u, hu, _⟩ := h2.getR (List.getElem?_eq_getElem (by omega : i < xs.length))
    obtain ⟨w, hw, _⟩ := g2.getR (List.getElem?_eq_getElem (by omega : i < ys.length))
    exact ⟨us, ws, u, w, h1, g1, hu, hw⟩, fun H ⟨⟨a', us, e, h1, h2⟩, ⟨b', ws, e', g1, g2⟩⟩ => by
    cases e; cases e'
    have l1 := h2.len
    have l2 := g2.len
    exact ⟨us, ws, h1, g1, by rw [List.length_zip]; omega⟩, fun i H v H' hi ⟨⟨a', us, e, h1, h2⟩, ⟨b', ws, e', g1, g2⟩⟩ ⟨T, u, w, e1, e2, e3, e4, e5⟩ => by
    cases e; cases e'
    obtain ⟨x, hx, px⟩ := h2.get (e4 us h1)
    obtain ⟨y, hy, py⟩ := g2.get (e5 ws g1)
    exact ⟨T, u, w, x, y, e1, e2, e3, zip_get hx hy, px, py⟩⟩
theorem walk_zipL (xs : List α) (ys : List β) (a b : Addr) : Walk (Itz K a b) (List.zip xs ys).length (fun H => (∃ us, H a = some (.lst us) ∧ All2 (E.P H) us xs) ∧ ∃ ws, H b = some (.lst ws) ∧ All2 (F.P H) ws ys) (fun i H v H' => ∃ T u w x y, v = .ref T ∧ H T = none ∧ H' = L2.upd H T (.tup [u, w]) ∧ (List.zip xs ys)[i]? = some (x, y) ∧ E.P H u x ∧ F.P H w y) :=
  ⟨fun i H hi ⟨⟨us, h1, h2⟩, ⟨ws, g1, g2⟩⟩ => by
    rw [List.length_zip] at hi
    obtain ⟨u, hu, _⟩ := h2.getR (List.getElem?_eq_getElem (by omega : i < xs.length))
    obtain ⟨w, hw, _⟩ := g2.getR (List.getElem?_eq_getElem (by omega : i < ys.length))
    exact ⟨us, ws, u, w, SqL.of h1, SqL.of g1, hu, hw⟩, fun H ⟨⟨us, h1, h2⟩, ⟨ws, g1, g2⟩⟩ => by
    have l1 := h2.len
    have l2 := g2.len
    exact ⟨us, ws, SqL.of h1, SqL.of g1, by rw [List.length_zip]; omega⟩, fun i H v H' hi ⟨⟨us, h1, h2⟩, ⟨ws, g1, g2⟩⟩ ⟨T, u, w, e1, e2, e3, e4, e5⟩ => by
    obtain ⟨x, hx, px⟩ := h2.get (e4 us (SqL.of h1))
    obtain ⟨y, hy, py⟩ := g2.get (e5 ws (SqL.of g1))
    exact ⟨T, u, w, x, y, e1, e2, e3, zip_get hx hy, px, py⟩⟩
theorem forZ_core {J : It} {G : Hp → Prop} {zs : List (α × β)} {m0 : M} {bd : α × β → M → (M → Prop) → (M → Prop) → Prop} {k : M → Prop} {g : TG} {tb : TS} {H : Hp} (w : Walk J zs.length G (fun i H v H' => ∃ T u w x y, v = .ref T ∧ H T = none ∧ H' = L2.upd H T (.tup [u, w]) ∧ zs[i]? = some (x, y) ∧ E.P H u x ∧ F.P H w y))
    (hm : forL zs m0 bd k) (up : M → B → List (Option (Option V))) (Pm : M → B → List HA) (b0 : B) (h0 : σ = upds σ (up m0 b0)) (s0 : Sub L (Pm m0 b0 ++ R)) (hG : ∀ m b H', Holds (Pm m b ++ R) H' → G H')
    (hs : (∀ m b, k m → Ent (Pm m b ++ R) (nx (upds σ (up m b)))) → ∀ x m b (nxt : M → Prop), bd x m nxt k → ∀ T u w, Ent (vl F w x.2 :: vl E u x.1 :: tu T [u, w] :: (Pm m b ++ R)) fun H => g (.ref T) (upds σ (up m b)) H fun σ2 H2 => tb ⟨fun σ' H' => ∃ m b, nxt m ∧ σ' = upds σ (up m b) ∧ Holds (Pm m b ++ R) H', rt, nx, fun σ' H' => ∃ m b, nxt m ∧ σ' = upds σ (up m b) ∧ Holds (Pm m b ++ R) H'⟩ σ2 H2)
    (hd : ∀ m b, k m → Ent (Pm m b ++ R) (nx (upds σ (up m b)))) (h : Holds L H) : kLoop g tb ⟨nx, rt, bk, ct⟩ σ J H := by
  refine w_loop w (fun i σ' H' => ∃ m b, forL (zs.drop i) m bd k ∧ i ≤ zs.length ∧ σ' = upds σ (up m b) ∧ Holds (Pm m b ++ R) H') ⟨m0, b0, hm, Nat.zero_le _, h0, s0.to h⟩ (fun i σ' H' _ ⟨m, b, _, _, _, z⟩ => hG m b H' z) (fun i v σ' H' H'' hi ⟨m, b, hf, _, e, z⟩ ⟨T, u, w', x, y, e2, nT, eH, hx, px, py⟩ => ?_) (fun σ' H' ⟨m, b, hf, _, e, z⟩ => ?_)
  · subst e e2 eH
    have ed : zs.drop i = (x, y) :: zs.drop (i + 1) := by
      rw [List.drop_eq_getElem_cons hi]
      congr 1
      exact Option.some.inj ((List.getElem?_eq_getElem hi).symm.trans hx)
    rw [ed, forL_cons] at hf
    have z1 : Holds (tu T [u, w'] :: (Pm m b ++ R)) (L2.upd H' T (.tup [u, w'])) := z.newI (o := .tup [u, w']) nT rfl
    have z0 : Holds (vl F w' y :: vl E u x :: tu T [u, w'] :: (Pm m b ++ R)) (L2.upd H' T (.tup [u, w'])) := (z1.vl (E := E) (x := x) (v := u) (E.st px (keepI_new nT))).vl (F.st py (keepI_new nT))
    have r := hs hd (x, y) m b (fun m' => forL (zs.drop (i + 1)) m' bd k ∧ i + 1 ≤ zs.length) (by
      have : (fun m' => forL (zs.drop (i + 1)) m' bd k ∧ i + 1 ≤ zs.length) = fun m' => forL (zs.drop (i + 1)) m' bd k := by
        funext m'
        exact propext ⟨fun z => z.1, fun z => ⟨z, hi⟩⟩
      rw [this]
      exact hf) T u w' _ z0
    simpa only [and_assoc] using r
  · subst e
    rw [List.drop_eq_nil_of_le (Nat.le_refl _)] at hf
    exact hd m b hf H' z
theorem c_forZp {xs : List α} {ys : List β} {m0 : M} {bd : α × β → M → (M → Prop) → (M → Prop) → Prop} {k : M → Prop} {g : TG} {tb : TS} (hm : forL (List.zip xs ys) m0 bd k) (up : M → B → List (Option (Option V))) (Pm : M → B → List HA) (b0 : B) (h0 : σ = upds σ (up m0 b0)) (s0 : Sub L (Pm m0 b0 ++ R)) (t : Is (kT E) R v xs) (t2 : Is (kT F) R u ys)
    (hs : (∀ m b, k m → Ent (Pm m b ++ R) (nx (upds σ (up m b)))) → ∀ x m b (nxt : M → Prop), bd x m nxt k → ∀ T u w, Ent (vl F w x.2 :: vl E u x.1 :: tu T [u, w] :: (Pm m b ++ R)) fun H => g (.ref T) (upds σ (up m b)) H fun σ2 H2 => tb ⟨fun σ' H' => ∃ m b, nxt m ∧ σ' = upds σ (up m b) ∧ Holds (Pm m b ++ R) H', rt, nx, fun σ' H' => ∃ m b, nxt m ∧ σ' = upds σ (up m b) ∧ Holds (Pm m b ++ R) H'⟩ σ2 H2)
    (hd : ∀ m b, k m → Ent (Pm m b ++ R) (nx (upds σ (up m b)))) : Ent L fun H => kZipA K (kLoop g tb ⟨nx, rt, bk, ct⟩ σ) [v, u] H := fun H h => by
  have fr : ∀ m b H', Holds (Pm m b ++ R) H' → Holds R H' := fun m b H' z => by
    obtain ⟨S, z⟩ := z
    obtain ⟨S1, S2, _, z2, _⟩ := HL.app.mp z
    exact ⟨S2, z2⟩
  have hR := fr m0 b0 H (s0.to h)
  obtain ⟨a, us, rfl, h1, h2⟩ := t H hR
  obtain ⟨b, ws, rfl, g1, g2⟩ := t2 H hR
  exact ⟨a, b, us, ws, rfl, .inr ⟨h1, g1, forZ_core (walk_zipT xs ys a b) hm up Pm b0 h0 s0 (fun m b' H' z => ⟨t H' (fr m b' H' z), t2 H' (fr m b' H' z)⟩) hs hd h⟩⟩
theorem c_forZl {xs : List α} {ys : List β} {a b : Addr} {R2 : List HA} {m0 : M} {bd : α × β → M → (M → Prop) → (M → Prop) → Prop} {k : M → Prop} {g : TG} {tb : TS} (hm : forL (List.zip xs ys) m0 bd k) (up : M → B → List (Option (Option V))) (Pm : M → B → List HA) (b0 : B) (h0 : σ = upds σ (up m0 b0)) (s0 : Sub L (Pm m0 b0 ++ R)) (t : Take (ls E a xs) R R') (t2 : Take (ls F b ys) R R2)
    (hs : (∀ m b, k m → Ent (Pm m b ++ R) (nx (upds σ (up m b)))) → ∀ x m b (nxt : M → Prop), bd x m nxt k → ∀ T u w, Ent (vl F w x.2 :: vl E u x.1 :: tu T [u, w] :: (Pm m b ++ R)) fun H => g (.ref T) (upds σ (up m b)) H fun σ2 H2 => tb ⟨fun σ' H' => ∃ m b, nxt m ∧ σ' = upds σ (up m b) ∧ Holds (Pm m b ++ R) H', rt, nx, fun σ' H' => ∃ m b, nxt m ∧ σ' = upds σ (up m b) ∧ Holds (Pm m b ++ R) H'⟩ σ2 H2)
    (hd : ∀ m b, k m → Ent (Pm m b ++ R) (nx (upds σ (up m b)))) : Ent L fun H => kZipA K (kLoop g tb ⟨nx, rt, bk, ct⟩ σ) [.ref a, .ref b] H := fun H h => by
  have fr : ∀ m b H', Holds (Pm m b ++ R) H' → Holds R H' := fun m b H' z => by
    obtain ⟨S, z⟩ := z
    obtain ⟨S1, S2, _, z2, _⟩ := HL.app.mp z
    exact ⟨S2, z2⟩
  have hR := fr m0 b0 H (s0.to h)
  obtain ⟨us, h1, h2⟩ := t.ls hR
  obtain ⟨ws, g1, g2⟩ := t2.ls hR
  exact ⟨a, b, us, ws, rfl, .inl ⟨SqL.of h1, SqL.of g1, forZ_core (walk_zipL (E := E) (F := F) xs ys a b) hm up Pm b0 h0 s0 (fun m b' H' z => ⟨t.ls (fr m b' H' z), t2.ls (fr m b' H' z)⟩) hs hd h⟩⟩
end
/-! ## repr of a tuple, or of None -/
section
variable {K : PySem.W.Frag} {α : Type} {L : List HA} {Q : VK} {E : El K α} {v : V}
def rReprO {K : PySem.W.Frag} {α : Type} (C : Ct K α) : List V → Hp → VK → Prop := fun vs H Q => (vs = [.non] ∧ Q (.str "None") H) ∨ rReprC C vs H Q
theorem call_reprO {X : Cx} (C : Ct K α) (hgd : X.A.guards = some []) (hu : X.A.units + 64 < cLine) (hK : X.K = K := by rfl) : CallR X (.builtin "repr") (rReprO C) := by
  intro pins s σ H xs us Q I r h
  rcases h with ⟨rfl, q⟩ | h
  · obtain ⟨u, rfl, rfl⟩ := vals1 r
    exact PySem.P.repr_of_none ⟨.str "None", H, I.tok _, ⟨_, rfl⟩, q⟩
  · exact call_reprC C hgd hu hK pins s σ H xs us Q I r h
theorem c_reprVt {x : List α} {D : PyData} {k : Prop} (hm : grd (Shw D) k) (h : Is (kT E) L v x) (e : (kT E).d x = D) (q : k → Ent L (Q (.str D.shown))) : Ent L fun H => rReprC (ctE (kT E)) [v] H Q := fun H z => by
  subst e
  have p := h H z
  obtain ⟨a, us, rfl, _, _⟩ := id p
  exact ⟨a, x, rfl, p, hm.1, q hm.2 H z⟩
theorem c_reprOt {x : Option (List α)} {D : PyData} {k : Prop} (hm : grd (Shw D) k) (h : Is (kO (kT E)) L v x) (e : (kO (kT E)).d x = D) (q : k → Ent L (Q (.str D.shown))) : Ent L fun H => rReprO (ctE (kT E)) [v] H Q := fun H z => by
  subst e
  have p := h H z
  cases x with
  | none =>
    have p : v = .non := p
    subst p
    exact .inl ⟨rfl, q hm.2 H z⟩
  | some y =>
    have p : (kT E).P H v y := p
    obtain ⟨a, us, rfl, _, _⟩ := id p
    exact .inr ⟨a, y, rfl, p, hm.1, q hm.2 H z⟩
end
theorem c_getOS {K : PySem.W.Frag} {L R : List HA} {φ : Hp → Prop} {v : V} {o : Option Str} {k : Str → Prop} (hm : obg o k) (t : Take (vl (kO (kSt (K := K))) v o) L R) (q : ∀ w, k w → v = .str w → Ent (vl (kSt (K := K)) v w :: L) φ) : Ent L φ := fun H h => by
  obtain ⟨w, rfl, hk⟩ := hm
  have p : (kSt (K := K)).P H v w := t.vl h
  exact q w hk p.1 H (h.vl p)
theorem szd_str {s : Str} {w : Nat} (h : (PyData.showable (.str s) && !PyData.hasDict (.str s) && PyData.leavesShort 13 (.str s) && decide (PyData.weight (.str s) ≤ w) && decide (PyData.depth (.str s) ≤ 0)) = true) : Szd w 0 (.str s) := by
  simp only [Bool.and_eq_true, Bool.not_eq_true', decide_eq_true_eq] at h
  exact ⟨h.1.1.1.1, h.1.1.1.2, h.1.1.2, h.1.2, h.2⟩
end Toy
namespace Toy
open PySem L2 PySem.Spec PyProof.Rows
section
variable {K : PySem.W.Frag} {κ α β M B : Type} {f : κ → L2.Key} {E : El K α} {L R R2 : List HA} {Q : VK} {a : Addr} {ds : List (κ × α)} {kvs : List (L2.Key × V)} {od : Obj} {H : Hp} {nx bk ct : L2.St → Hp → Prop} {rt : VK} {σ : L2.St} {i : Nat}
/-! ## dicts that are gone through stand still -/
def dkl {K : PySem.W.Frag} {κ α : Type} (f : κ → L2.Key) (E : El K α) (a : Addr) (od : Obj) (kvs : List (L2.Key × V)) (d : List (κ × α)) : HA := ⟨fun H S => (H a = some (.frz od (.dK kvs)) ∧ All2 (DkR f E H) kvs d) ∧ ∀ b, S b ↔ b = a, fun {H H' S} ⟨⟨h, x⟩, s⟩ k => ⟨⟨k a _ h (.inl ((s a).mpr rfl)), x.imp fun _ _ z => ⟨z.1, E.st z.2 k.i⟩⟩, s⟩, fun {H S c} ⟨⟨h, x⟩, s⟩ q => by
  rw [(s c).mp q]
  exact ⟨_, h, rfl⟩⟩
theorem Holds.dkl_mk (h : Holds (pt a (.frz od (.dK kvs)) :: R) H) (e : All2 (DkR f E H) kvs ds) : Holds (dkl f E a od kvs ds :: R) H := by
  obtain ⟨S, S1, S2, ⟨h0, _, s⟩, h2⟩ := h
  exact ⟨S, S1, S2, ⟨⟨h0, e⟩, s⟩, h2⟩
theorem Holds.dkl_op (h : Holds (dkl f E a od kvs ds :: R) H) : Holds (pt a (.frz od (.dK kvs)) :: R) H ∧ All2 (DkR f E H) kvs ds := by
  obtain ⟨S, S1, S2, ⟨⟨h1, h2⟩, s⟩, h3⟩ := h
  exact ⟨⟨S, S1, S2, ⟨h1, rfl, s⟩, h3⟩, h2⟩
theorem Holds.dkl_in (h : Holds (pt a (.dK kvs) :: R) H) (e : All2 (DkR f E H) kvs ds) (od : Obj) : Holds (dkl f E a od kvs ds :: R) (L2.upd H a (.frz od (.dK kvs))) := (h.upd rfl).dkl_mk (dkR_upd h rfl e)
theorem Holds.dkl_out (h : Holds (dkl f E a od kvs ds :: R) H) : Holds (dk f E a ds :: R) (L2.upd H a (.dK kvs)) := by
  obtain ⟨h1, h2⟩ := h.dkl_op
  exact (h1.upd rfl).dk_mk (dkR_upd h1 rfl h2)
theorem walk_items (n : Nat) (hn : kvs.length = n) : Walk (Iti a od kvs) n (fun H => H a = some (.frz od (.dK kvs))) (fun i H v H' => ∃ T k u, kvs[i]? = some (k, u) ∧ v = .ref T ∧ H T = none ∧ H' = L2.upd H T (.tup [kV k, u])) :=
  ⟨fun i H hi h => ⟨h, by omega⟩, fun H h => ⟨h, by omega⟩, fun i H x H' hi h y => y⟩
theorem walk_keys (n : Nat) (hn : kvs.length = n) : Walk (Itk a od kvs) n (fun H => H a = some (.frz od (.dK kvs))) (fun i H v H' => H' = H ∧ ∃ k u, kvs[i]? = some (k, u) ∧ v = kV k) :=
  ⟨fun i H hi h => ⟨h, by omega⟩, fun H h => ⟨h, by omega⟩, fun i H x H' hi h y => y⟩
theorem Holds.dkl_get (h : Holds (dkl f E a od kvs ds :: R) H) : H a = some (.frz od (.dK kvs)) := h.dkl_op.1.pt_get
theorem Sub.drop2 {A A2 : HA} : Sub (A :: A2 :: L) (A2 :: L) := Sub.drop Sub.refl
/-- [.. for k, v in d.items() if ..] -/
theorem c_lcIt {bd : κ × α → (Option β → Prop) → Prop} {k : List β → Prop} {g : TG} {tt : TT} {te : TE} {vs : List Nat} (E' : El K β) (hm : grd (ds.length ≤ 100000) (lcL ds [] bd k)) (h0 : σ[i]? = some (some (.ref a))) (t : Take (dk f E a ds) L R)
    (step : ∀ x (nxt : Option β → Prop), bd x nxt → ∀ od kvs T u D ys (r : VK) (s : Hp → Prop), (∀ v' y, nxt (some y) → Ent (vl E' v' y :: ls E' D ys :: dkl f E a od kvs ds :: R) (r v')) → (nxt none → Ent (ls E' D ys :: dkl f E a od kvs ds :: R) s) → Ent (tu T [kV (f x.1), u] :: vl E u x.2 :: ls E' D ys :: dkl f E a od kvs ds :: R) fun H => g (.ref T) (wipe σ vs) H fun σ2 H2 => wipe σ2 vs = wipe σ vs ∧ tt σ2 H2 fun b H3 => if b = true then te σ2 H3 r else s H3)
    (q : ∀ ys, k ys → ∀ D, Ent (ls E' D ys :: dk f E a ds :: R) (Q (.ref D))) : Ent L fun H => tLockE (tLc (iItems (tVar i)) g tt te vs) σ H Q := fun H h => by
  obtain ⟨hz, hm⟩ := hm
  obtain ⟨kvs, h1, h2⟩ := (t.to h).dk_op
  have hl : kvs.length = ds.length := h2.len
  refine ⟨a, .dK kvs, h1.pt_get, trivial, fun od => ⟨.ref a, h0, a, od, kvs, rfl, upd_same, fun D nD => ?_⟩⟩
  have h3 : Holds (dkl f E a od kvs ds :: R) (L2.upd H a (.frz od (.dK kvs))) := h1.dkl_in h2 od
  refine lc_it (walk_items (a := a) (od := od) ds.length hl) (fun i H' => ∃ ys, lcL (ds.drop i) ys bd k ∧ i ≤ ds.length ∧ ys.length ≤ i ∧ Holds (ls E' D ys :: dkl f E a od kvs ds :: R) H') ⟨[], hm, Nat.zero_le _, Nat.le_refl _, h3.ls_new nD .nil⟩ (fun i H' _ ⟨ys, _, _, _, p⟩ => (Sub.to Sub.drop2 p).dkl_get) (fun i v H' H'' hi ⟨ys, hf, _, hy, p⟩ ⟨T, k1, u, hx, e, nT, eH⟩ => ?_) (fun H' ⟨ys, hf, _, _, p⟩ => ?_)
  · subst e eH
    have p2 := Sub.to Sub.drop2 p
    obtain ⟨x, hx2, hp⟩ := p2.dkl_op.2.get hx
    obtain ⟨e1, hp⟩ := hp
    simp only at e1 hp
    have ed : ds.drop i = x :: ds.drop (i + 1) := by
      rw [List.drop_eq_getElem_cons hi]
      congr 1
      exact Option.some.inj ((List.getElem?_eq_getElem hi).symm.trans hx2)
    rw [ed, lcL] at hf
    have z0 : Holds (tu T [kV k1, u] :: vl E u x.2 :: ls E' D ys :: dkl f E a od kvs ds :: R) (L2.upd H' T (.tup [kV k1, u])) := Sub.to Sub.swap (by
      have z := (p.newI (o := .tup [kV k1, u]) nT rfl).vl (E := E) (x := x.2) (v := u) (E.st hp (keepI_new nT))
      exact z)
    rw [e1] at z0 ⊢
    refine step x _ hf od kvs T u D ys _ _ (fun v' y hy' H4 z => ?_) (fun hn H3 z => ?_) _ z0
    · obtain ⟨ac, z1, z2⟩ := Holds.ls_op (Sub.to (Sub.drop Sub.refl) z)
      have z3 : E'.P H4 v' y := Take.vl take_here z
      refine ⟨ac, z1.pt_get, ?_, ys ++ [y], hy', hi, by simp; omega, Holds.ls_upd (Sub.to (Sub.drop Sub.refl) z) (z2.app (.one z3))⟩
      rw [z2.len]
      exact Nat.lt_of_le_of_lt (by omega : ys.length ≤ 100000) (by decide : 100000 < sizeLine)
    · exact ⟨ys, by simpa using hn, hi, by omega, z⟩
  · rw [List.drop_length] at hf
    have p2 := Sub.to Sub.swap p
    exact ⟨p2.dkl_get, q ys hf D _ (Sub.to Sub.swap p2.dkl_out)⟩
theorem e_lcIt0 {g : TG} {tt : TT} {te : TE} {vs : List Nat} (q : Ent L fun H => tLockE (tLc (iItems (tVar i)) g tt te vs) σ H Q) : Ent L fun H => tLockE (tLc (iItems (tVar i)) g tt te vs) σ H Q := q
/-- for k in d -/
theorem c_forKy {m0 : M} {bd : κ → M → (M → Prop) → (M → Prop) → Prop} {k : M → Prop} {g : TG} {tb : TS} (hm : forL (ds.map (·.1)) m0 bd k) (up : M → B → List (Option (Option V))) (Pm : M → B → List HA) (b0 : B) (h0 : σ = upds σ (up m0 b0)) (hi : σ[i]? = some (some (.ref a))) (t : Take (dk f E a ds) L R) (s0 : Sub R (Pm m0 b0 ++ R2))
    (hs : (∀ m b, k m → Ent (dk f E a ds :: (Pm m b ++ R2)) (nx (upds σ (up m b)))) → ∀ od kvs x m b (nxt : M → Prop), bd x m nxt k → Ent (dkl f E a od kvs ds :: (Pm m b ++ R2)) fun H => g (kV (f x)) (upds σ (up m b)) H fun σ2 H2 => tb ⟨fun σ' H' => ∃ m b, nxt m ∧ σ' = upds σ (up m b) ∧ Holds (dkl f E a od kvs ds :: (Pm m b ++ R2)) H', fun v H' => H' a = some (.frz od (.dK kvs)) ∧ rt v (L2.upd H' a (.dK kvs)), fun σ' H' => H' a = some (.frz od (.dK kvs)) ∧ nx σ' (L2.upd H' a (.dK kvs)), fun σ' H' => ∃ m b, nxt m ∧ σ' = upds σ (up m b) ∧ Holds (dkl f E a od kvs ds :: (Pm m b ++ R2)) H'⟩ σ2 H2)
    (hd : ∀ m b, k m → Ent (dk f E a ds :: (Pm m b ++ R2)) (nx (upds σ (up m b)))) : Ent L fun H => tLock (tFor (iKeys (tVar i)) g tb) ⟨nx, rt, bk, ct⟩ σ H := fun H h => by
  obtain ⟨kvs, h1, h2⟩ := (t.to h).dk_op
  have hl : kvs.length = ds.length := h2.len
  have hlm : (ds.map (·.1)).length = ds.length := List.length_map ..
  refine ⟨a, .dK kvs, h1.pt_get, trivial, fun od => ⟨.ref a, hi, a, od, rfl, .inl ⟨kvs, upd_same, ?_⟩⟩⟩
  have h3 : Holds (dkl f E a od kvs ds :: (Pm m0 b0 ++ R2)) (L2.upd H a (.frz od (.dK kvs))) := Sub.to (Sub.cons s0) (h1.dkl_in h2 od)
  refine w_loop (walk_keys (a := a) (od := od) ds.length hl) (fun i σ' H' => ∃ m b, forL ((ds.map (·.1)).drop i) m bd k ∧ i ≤ ds.length ∧ σ' = upds σ (up m b) ∧ Holds (dkl f E a od kvs ds :: (Pm m b ++ R2)) H') ⟨m0, b0, hm, Nat.zero_le _, h0, h3⟩ (fun i σ' H' _ ⟨m, b, _, _, _, z⟩ => z.dkl_get) (fun i v σ' H' H'' hi ⟨m, b, hf, _, e, z⟩ ⟨e2, k1, u, hx, e3⟩ => ?_) (fun σ' H' ⟨m, b, hf, _, e, z⟩ => ?_)
  · subst e e2 e3
    obtain ⟨x, hx2, e1, hp⟩ := z.dkl_op.2.get hx
    simp only at e1
    have hx3 : (ds.map (·.1))[i]? = some x.1 := by rw [List.getElem?_map, hx2]; rfl
    have ed : (ds.map (·.1)).drop i = x.1 :: (ds.map (·.1)).drop (i + 1) := by
      rw [List.drop_eq_getElem_cons (by omega)]
      congr 1
      exact Option.some.inj ((List.getElem?_eq_getElem (by omega)).symm.trans hx3)
    rw [ed, forL_cons] at hf
    rw [e1]
    have r := hs hd od kvs x.1 m b (fun m' => forL ((ds.map (·.1)).drop (i + 1)) m' bd k ∧ i + 1 ≤ ds.length) (by
      have : (fun m' => forL ((ds.map (·.1)).drop (i + 1)) m' bd k ∧ i + 1 ≤ ds.length) = fun m' => forL ((ds.map (·.1)).drop (i + 1)) m' bd k := by
        funext m'
        exact propext ⟨fun z => z.1, fun z => ⟨z, hi⟩⟩
      rw [this]
      exact hf) _ z
    simpa only [and_assoc] using r
  · subst e
    rw [List.drop_eq_nil_of_le (by omega)] at hf
    exact ⟨z.dkl_get, hd m b hf _ z.dkl_out⟩
theorem c_lcItI {ds : List (Int × α)} {bd : Int × α → (Option β → Prop) → Prop} {k : List β → Prop} {g : TG} {tt : TT} {te : TE} {vs : List Nat} (E' : El K β) (hm : grd (ds.length ≤ 100000) (lcL ds [] bd k)) (h0 : σ[i]? = some (some (.ref a))) (t : Take (dk fI E a ds) L R)
    (step : ∀ x (nxt : Option β → Prop), bd x nxt → ∀ od kvs T u D ys (r : VK) (s : Hp → Prop), (∀ v' y, nxt (some y) → Ent (vl E' v' y :: ls E' D ys :: dkl fI E a od kvs ds :: R) (r v')) → (nxt none → Ent (ls E' D ys :: dkl fI E a od kvs ds :: R) s) → Ent (tu T [.int x.1, u] :: vl E u x.2 :: ls E' D ys :: dkl fI E a od kvs ds :: R) fun H => g (.ref T) (wipe σ vs) H fun σ2 H2 => wipe σ2 vs = wipe σ vs ∧ tt σ2 H2 fun b H3 => if b = true then te σ2 H3 r else s H3)
    (q : ∀ ys, k ys → ∀ D, Ent (ls E' D ys :: dk fI E a ds :: R) (Q (.ref D))) : Ent L fun H => tLockE (tLc (iItems (tVar i)) g tt te vs) σ H Q := c_lcIt E' hm h0 t step q
theorem c_forKyI {ds : List (Int × α)} {m0 : M} {bd : Int → M → (M → Prop) → (M → Prop) → Prop} {k : M → Prop} {g : TG} {tb : TS} (hm : forL (ds.map (·.1)) m0 bd k) (up : M → B → List (Option (Option V))) (Pm : M → B → List HA) (b0 : B) (h0 : σ = upds σ (up m0 b0)) (hi : σ[i]? = some (some (.ref a))) (t : Take (dk fI E a ds) L R) (s0 : Sub R (Pm m0 b0 ++ R2))
    (hs : (∀ m b, k m → Ent (dk fI E a ds :: (Pm m b ++ R2)) (nx (upds σ (up m b)))) → ∀ od kvs x m b (nxt : M → Prop), bd x m nxt k → Ent (dkl fI E a od kvs ds :: (Pm m b ++ R2)) fun H => g (.int x) (upds σ (up m b)) H fun σ2 H2 => tb ⟨fun σ' H' => ∃ m b, nxt m ∧ σ' = upds σ (up m b) ∧ Holds (dkl fI E a od kvs ds :: (Pm m b ++ R2)) H', fun v H' => H' a = some (.frz od (.dK kvs)) ∧ rt v (L2.upd H' a (.dK kvs)), fun σ' H' => H' a = some (.frz od (.dK kvs)) ∧ nx σ' (L2.upd H' a (.dK kvs)), fun σ' H' => ∃ m b, nxt m ∧ σ' = upds σ (up m b) ∧ Holds (dkl fI E a od kvs ds :: (Pm m b ++ R2)) H'⟩ σ2 H2)
    (hd : ∀ m b, k m → Ent (dk fI E a ds :: (Pm m b ++ R2)) (nx (upds σ (up m b)))) : Ent L fun H => tLock (tFor (iKeys (tVar i)) g tb) ⟨nx, rt, bk, ct⟩ σ H := c_forKy hm up Pm b0 h0 hi t s0 hs hd
/-- d[k] of a dict that is gone through -/
theorem Take.dkl (t : Take (dkl f E a od kvs ds) L R) (h : Holds L H) : H a = some (.frz od (.dK kvs)) ∧ All2 (DkR f E H) kvs ds := by
  obtain ⟨S, S1, S2, h1, _⟩ := t.to h
  exact h1.1
theorem c_dgetIL {ds : List (Int × α)} {j : Int} {k : α → Prop} (hm : obx (dg ds j) k) (t : Take (dkl fI E a od kvs ds) L R) (q : ∀ w, k w → ∀ v, Ent (vl E v w :: L) (Q v)) : Ent L fun H => kDGet Q (.ref a) (.int j) H := fun H h => by
  obtain ⟨w, e, hk⟩ := hm
  obtain ⟨h1, h2⟩ := t.dkl h
  obtain ⟨v, e2, hp⟩ := (dkR_val fI_inj h2 j).1 w e
  refine ⟨a, v, rfl, .inl ⟨kvs, fI j, .inr ⟨od, h1⟩, rfl, e2.symm⟩, q w hk v H (h.vl hp)⟩
end
/-! ## sorted of pairs of numbers -/
def leP (x y : Int × Int) : Bool := decide (x.1 < y.1 ∨ x.1 = y.1 ∧ x.2 ≤ y.2)
def srtP (xs : List (Int × Int)) : List (Int × Int) := xs.mergeSort leP
theorem leP_trans : ∀ a b c : Int × Int, leP a b = true → leP b c = true → leP a c = true := fun a b c h1 h2 => by
  simp only [leP, decide_eq_true_eq] at *
  omega
theorem leP_total : ∀ a b : Int × Int, (leP a b || leP b a) = true := fun a b => by
  simp only [leP, Bool.or_eq_true, decide_eq_true_eq]
  omega
theorem leP_anti {a b : Int × Int} (h1 : leP a b = true) (h2 : leP b a = true) : a = b := by
  simp only [leP, decide_eq_true_eq] at *
  exact Prod.ext (by omega) (by omega)
theorem srtP_perm (xs : List (Int × Int)) : (srtP xs).Perm xs := List.mergeSort_perm ..
theorem srtP_le (xs : List (Int × Int)) : (srtP xs).Pairwise fun a b => leP a b = true := List.pairwise_mergeSort leP_trans leP_total xs
theorem srtP_eq {xs ys : List (Int × Int)} (h : ys.Perm xs) (s : ys.Pairwise fun a b => leP a b = true) : srtP xs = ys := by
  have p := (srtP_perm xs).trans h.symm
  exact List.Perm.eq_of_pairwise (fun a b _ _ => leP_anti) (srtP_le xs) s p
section
variable {K : PySem.W.Frag} {L R : List HA} {Q : VK} {a : Addr}
abbrev kPI {K : PySem.W.Frag} : El K (Int × Int) := kTup (kC kI (kC1 kI))
noncomputable def rdP (H : Hp) (v : V) : Int × Int := match v with | .ref t => (match H t with | some (.tup [.int i, .int j]) => (i, j) | _ => (0, 0)) | _ => (0, 0)
theorem rdP_of {H : Hp} {v : V} {x : Int × Int} (h : (kPI (K := K)).P H v x) : ∃ t, v = .ref t ∧ H t = some (.tup [.int x.1, .int x.2]) ∧ rdP H v = x := by
  obtain ⟨t, us, rfl, ht, h2⟩ := h
  obtain ⟨u1, us1, e1, p1, h3⟩ := h2
  obtain ⟨u2, e2, p2⟩ := h3
  subst e1 e2
  cases p1
  cases p2
  refine ⟨t, rfl, ht, ?_⟩
  unfold rdP
  simp only [ht]
theorem cr_srtP {X : Cx} (h : X.K = K := by rfl) : CallR X (.builtin "sorted") (rSortedPO K) := h ▸ cr_sortedPO
theorem c_sortedP {xs : List (Int × Int)} (t : Take (ls (kPI (K := K)) a xs) L R) (q : ∀ p, Ent (ls (kPI (K := K)) p (srtP xs) :: L) (Q (.ref p))) : Ent L fun H => rSortedPO K [.ref a] H Q := fun H h => by
  obtain ⟨vs, h1, h2⟩ := t.ls h
  refine ⟨a, vs, rdP H, rfl, SqL.of h1, fun x hx => ?_, fun ys p hs hb np => ?_⟩
  · obtain ⟨i, hi⟩ := List.mem_iff_getElem?.mp hx
    obtain ⟨z, _, hp⟩ := h2.get hi
    obtain ⟨t, e, ht, er⟩ := rdP_of hp
    exact ⟨t, e, by rw [er]; exact ht⟩
  · have hperm : ys.Perm vs := hb.perm
    have em : xs = vs.map (rdP H) := by
      clear hb hs hperm h1 h t q
      induction h2 with
      | nil => rfl
      | cons hp _ ih =>
        obtain ⟨_, _, _, er⟩ := rdP_of hp
        rw [List.map_cons, er, ← ih]
    have e2 : srtP xs = ys.map (rdP H) := by
      refine srtP_eq (by rw [em]; exact hperm.map _) ?_
      rw [List.pairwise_map]
      refine List.Pairwise.imp (fun {x y} hxy => ?_) (show ys.Pairwise fun x y => ltP (rdP H) y x = false from hs)
      have := SrtO.lexB_no.mp hxy
      simp only [leP, decide_eq_true_eq]
      omega
    refine q p _ (h.ls_new np ?_)
    rw [e2]
    have all : ∀ y ∈ ys, (kPI (K := K)).P H y (rdP H y) := fun y hy => by
      obtain ⟨i, hi⟩ := List.mem_iff_getElem?.mp (hperm.mem_iff.mp hy)
      obtain ⟨z, _, hp⟩ := h2.get hi
      obtain ⟨_, _, _, er⟩ := rdP_of hp
      rw [er]
      exact hp
    clear e2 hb hs hperm
    induction ys with
    | nil => exact .nil
    | cons y ys ih => exact .cons (all y (by simp)) (ih fun z hz => all z (by simp [hz]))
end
end Toy
namespace Toy
open PySem PySem.Spec PyProof.Rows L2 RZ
/-! ## enumerate of a tuple -/
theorem meets_enumT_new (l : Addr) (items : Array Value) :
    Meets (Builtin.«enumerate.__new__» ⟨[.type "enumerate", .ref l], []⟩) (fun _ R s => s.heap.IsTuple l items ∧
      R (.ok (.ret (.ref (s.heap.push { cls := .type "tuple_iterator", data := .fields #[.ref l, .int 0 0] }).objs.size)))
        { s with heap := (s.heap.push { cls := .type "tuple_iterator", data := .fields #[.ref l, .int 0 0] }).push { cls := .type "enumerate", data := .fields #[.none, .bool false, .ref s.heap.objs.size, rawInt 0, .none, .none] } }) :=
  .of_wp fun prog w A R s h => by
    obtain ⟨hp, g, d, tk, os⟩ := s; obtain ⟨hl, h⟩ := h
    have hsub := sub_enumerate
    have hL : Heap.IsTuple (Shared.heap ⟨hp, g, d, tk, os⟩) l items := hl
    wp_walk using wpAny_pyIter_tuple hL
    refine wpAny_stack_any fun st => wpAny_pure ?_
    split
    · rename_i c _ _ _ _ _
      cases (c == Value.type "enumerate")
      · wp_walk using wpAny_pyIter_tuple hL
        exact ⟨_, rfl, h⟩
      · wp_walk using wpAny_pyIter_tuple hL
        exact ⟨_, rfl, h⟩
    · wp_walk using wpAny_pyIter_tuple hL
      exact ⟨_, rfl, h⟩
theorem call_enumT {prog : Program} {w : World} {A : Around} {E : Value → Shared → Prop} {s : Shared} {l : Addr} {items : Array Value} {Q : Value → Shared → Prop} (hL : s.heap.IsTuple l items)
    (h : ∀ h', IsEnum h' (s.heap.objs.size + 1) s.heap.objs.size 0 .none → h'.IsTupleIter s.heap.objs.size l 0 → h'.objs.size = s.heap.objs.size + 2 →
      (∀ b o, s.heap.get? b = some o → h'.get? b = some o) → Q (.ref (s.heap.objs.size + 1)) { s with heap := h' }) :
    wpAny (model prog w) A (call (.type "enumerate") [.ref l]) Q E s := by
  refine callType_new F.called_enumerate (by decide) (F.typeCall_enumerate_1 _) (F.newCall_enumerate_1 _) (fun obj => F.args_object_init_2 obj _) F.entry_enumerate_new
    (meets_enumT_new l items) ⟨hL, ?_⟩
  have hz : (s.heap.push { cls := .type "tuple_iterator", data := .fields #[.ref l, .int 0 0] }).objs.size = s.heap.objs.size + 1 := Heap.size_push ..
  show _ ∧ _
  rw [hz]
  have he : IsEnum ((s.heap.push { cls := .type "tuple_iterator", data := .fields #[.ref l, .int 0 0] }).push
      { cls := .type "enumerate", data := .fields #[.none, .bool false, .ref s.heap.objs.size, rawInt 0, .none, .none] }) (s.heap.objs.size + 1) s.heap.objs.size 0 .none := by
    have := Heap.get?_push_size (s.heap.push { cls := .type "tuple_iterator", data := .fields #[.ref l, .int 0 0] })
      (o := { cls := .type "enumerate", data := .fields #[.none, .bool false, .ref s.heap.objs.size, rawInt 0, .none, .none] }) rfl
    rw [hz] at this; exact this
  refine ⟨⟨_, he, rfl⟩, h _ he ⟨_, Heap.get?_push_of_some _ (Heap.get?_push_size _ rfl), rfl, rfl⟩ (by rw [Heap.size_push, hz]) fun b o x => Heap.get?_push_of_some _ (Heap.get?_push_of_some _ x)⟩
def IteT (K : PySem.W.Frag) (a : Addr) : It :=
  ⟨fun i H => ∃ (xs : List V) (x : V), SqT K H a xs ∧ xs[i]? = some x, fun i H v H' => ∃ T x, v = .ref T ∧ H T = none ∧ H' = upd H T (.tup [.int (i : Nat), x]) ∧ ∀ xs, SqT K H a xs → xs[i]? = some x, fun i H => ∃ xs : List V, SqT K H a xs ∧ xs.length ≤ i⟩
theorem turn_enumT {P : Program} {w : World} {K : PySem.W.Frag} {elts : List Expr} {kk : Nat} {tpos : Pos} (a e it : Addr) :
    Turn P w K (.Tuple elts kk tpos) (IteT K a) [e, it] e (fun i h => (∃ old, IsEnum h e it ((i : Nat) : Int) old) ∧ h.IsTupleIter it a i ∧ e ≠ it ∧ e ≠ a ∧ a ≠ it) where
  mem := by simp
  obj := fun i h st b hb => by
    obtain ⟨⟨old, he⟩, ⟨o, ho, hc, hd⟩, _⟩ := st
    have e' : b = e ∨ b = it := by simpa using hb
    rcases e' with z | z
    · rw [z]; exact ⟨_, he, fun v q => nomatch q⟩
    · rw [z]; exact ⟨o, ho, fun v q => by rw [hd] at q; cases q⟩
  keep := fun i h h' st k => let ⟨⟨old, he⟩, hi, hne⟩ := st; ⟨⟨old, k e (by simp) _ he⟩, hi.at fun o q => k it (by simp) o q, hne⟩
  item := by
    intro X hP hw hK hc i pins s σ H E I hf st hg
    subst hP hw hK
    obtain ⟨⟨old, he⟩, hit, hne, hea, hai⟩ := st
    obtain ⟨xs, x, hq, hx⟩ := hg
    obtain ⟨its, rv, p, hz⟩ := I.tuple hq
    obtain ⟨u, hu, ru⟩ := rv.get hx
    have hel : e < s.heap.objs.size := Heap.lt_size he
    have hil : it < s.heap.objs.size := by obtain ⟨_, q, _⟩ := hit; exact Heap.lt_size q
    have hi : i < its.toArray.size := by
      have := (List.getElem?_eq_some_iff.mp hu).1
      simpa using this
    refine wpAny_pyNext_enum_itemD (fp := [it, a]) (Draws.tuple (A := X.A.in1) (show X.A.in1.handled = none from I.ok.hd hc) it a hai its.toArray) he ⟨hit, p⟩ hi hne (by simp [hne, hea]) fun u' h' tk hP' ho st' hT hsz hk => ?_
    obtain ⟨hit', _⟩ := st'
    obtain rfl : u' = u := by
      have hP'' : its.toArray[i]? = some u' := hP'
      rw [List.getElem?_toArray] at hP''
      rw [hu] at hP''
      exact (Option.some.inj hP'').symm
    refine ⟨_, rfl, wpAny_letOwnedTupleGo_enum (s := { s with heap := h', toks := tk + 1 }) ho fun h'' he' sb => ?_⟩
    have hT2 : h''.get? s.heap.objs.size = some { cls := .type "tuple", data := .seq #[.int i tk, u'] } := (sb.2 _ (Nat.ne_of_gt hel)).trans hT
    have new : ObjOk X.prog X.w (upd H s.heap.objs.size (.tup [.int (i : Nat), x])) h'' s.heap.objs.size (.tup [.int (i : Nat), x]) :=
      ⟨by show 2 ≤ sizeLine; decide, [.int i tk, u'], .cons ⟨_, rfl⟩ (.cons ru .nil), ⟨_, hT2, rfl, _, rfl⟩⟩
    have I1 : Inv X pins σ (upd H s.heap.objs.size (.tup [.int (i : Nat), x])) { s with heap := h'', toks := tk + 1 } :=
      I.turnedNew (ch := [e, it]) (fun b ob hb q => (sb.2 b (fun z => hb (by simp [z]))).trans (hk b ob (fun z => hb (by simp [z])) (fun z => hb (by simp [z])) q)) hf (Nat.le_refl _) new
    refine ⟨.ref s.heap.objs.size, _, I1, rfl, ⟨_, x, rfl, I.hok.fresh (Nat.le_refl _), rfl, fun ys hy => by rw [I.tuple_inj hy hq]; exact hx⟩, ⟨⟨u', ?_⟩, hit'.at fun o q => (sb.2 it (Ne.symm hne)).trans q, hne, hea, hai⟩, fun b hb => ?_⟩
    · have e1 : ((i + 1 : Nat) : Int) = (i : Int) + 1 := by omega
      rw [e1]; exact he'
    · have hb' : b < s.heap.objs.size := by
        have e' : b = e ∨ b = it := by simpa using hb
        rcases e' with z | z
        · rw [z]; exact hel
        · rw [z]; exact hil
      rw [upd_ne (Nat.ne_of_lt hb')]
      exact (hf b hb).1
  done := by
    intro X hP hw hK hc i pins s σ H E I hf st hg
    subst hP hw hK
    obtain ⟨⟨old, he⟩, hit, hne, hea, hai⟩ := st
    obtain ⟨xs, hq, hx⟩ := hg
    obtain ⟨its, rv, p, hz⟩ := I.tuple hq
    obtain ⟨f0, f1, f2, f3, f4, f5⟩ := hf it (by simp)
    have hl := rv.length
    have hT : s.TypeIs (.ref e) "enumerate" := ⟨_, he, rfl⟩
    unfold pyNext
    refine wpAny_bind (wpAny_attempt (wpAny_callSpecial?_slot (name := Str.ofString "__next__") hT F.slot_enumerate_next
      (wpAny_call_entry F.slot_enumerate_next hT F.entry_enumerate_next ?_ (F.args_enumerate_next_1 _))))
    show wpAny _ _ (field (.ref e) 2 >>= _) _ _ _
    refine wpAny_bind (wpAny_field he rfl (x := .ref it) rfl ?_)
    refine wpAny_bind (nextOf_tuple_end (I.ok.hd hc) hit p (by simp; omega) fun h' x he' hx' => ?_)
    obtain ⟨o, ho, hc'⟩ := hx'
    refine wpAny_bind (wpAny_isInstance (T := "StopIteration") (b := true) ⟨o, ho, hc'⟩ isSubtype_stop ?_)
    exact wpAny_pure ⟨rfl, I.turned (t' := s.toks) (fun b o hb q => he' b o hb q) f0 f1 f3 f4 f5⟩
  self := fun A i s Q E st h => let ⟨⟨_, he⟩, _⟩ := st; wpAny_pyIter_enum he h
def iEnumT (K : PySem.W.Frag) (ta : TA) : TI := fun σ H R => ta σ H fun vs H1 => ∃ a xs, vs = [.ref a] ∧ SqT K H1 a xs ∧ R (IteT K a) H1
theorem pi_enumT {X : Cx} {e : Expr} {ta : TA} {p pos tpos : Pos} {elts : List Expr} {kk : Nat} (hg : Gl X "enumerate") (hm : X.mg "enumerate" = none) (ha : PA X [e] ta) (hs : starEach [e] X.env = [(false, eval e X.env)] := by rfl) :
    PI X (.Tuple elts kk tpos) (.Call (.Name "enumerate" p) [e] [] pos) (iEnumT X.K ta) := by
  refine ⟨fun pins s σ H R I h => ?_⟩
  refine Call_ (ld_blt I hg hm boot_enumerate (PyProof.Rows.callWith_type1 (thn (ha.run pos pins s σ H _ I h) fun us s1 ⟨vs, H1, I1, r1, q1⟩ => ?_) hs rfl))
  obtain ⟨a, xs, ex, hq, q⟩ := q1
  subst ex
  cases r1 with
  | cons r rr =>
    cases rr
    cases r
    obtain ⟨its, rv, p', hz⟩ := I1.tuple hq
    have hlt : a < s1.heap.objs.size := by obtain ⟨_, q, _⟩ := id p'; exact Heap.lt_size q
    refine call_enumT p' fun h' he hit hsz hk => wpAny_pyIter_enum he ?_
    have I2 : Inv X pins σ H1 { s1 with heap := h' } := I1.kept (t' := s1.toks) hk
    refine ⟨s1.heap.objs.size + 1, [s1.heap.objs.size + 1, s1.heap.objs.size], _, _, H1, rfl, I2, turn_enumT a (s1.heap.objs.size + 1) s1.heap.objs.size, ⟨⟨.none, he⟩, hit, Nat.succ_ne_self _, Nat.ne_of_gt (Nat.lt_succ_of_lt hlt), Nat.ne_of_lt hlt⟩, fun b hb => ?_, q⟩
    have e' : b = s1.heap.objs.size + 1 ∨ b = s1.heap.objs.size := by simpa using hb
    have hle : s1.heap.objs.size ≤ b := by
      rcases e' with z | z
      · rw [z]; exact Nat.le_add_right _ _
      · rw [z]; exact Nat.le_refl _
    exact I1.fpOk hle (I1.hok.fresh hle)
end Toy

namespace Toy
open PySem L2 PySem.Spec PyProof.Rows RZ
section
variable {K : PySem.W.Frag} {α β M B : Type} {L R R' : List HA} {Q : VK} {E : El K α} {v : V} {nx bk ct : L2.St → Hp → Prop} {rt : VK} {σ : L2.St} {tas : TA} {l : Addr} {xs : List α}
def kEnumT (K : PySem.W.Frag) (R : It → Hp → Prop) (us : List V) (H : Hp) : Prop := ∃ a xs, us = [.ref a] ∧ SqT K H a xs ∧ R (IteT K a) H
theorem e_forET {g : TG} {tb : TS} (q : Ent L fun H => tas σ H fun us H1 => kEnumT K (kLoop g tb ⟨nx, rt, bk, ct⟩ σ) us H1) : Ent L fun H => tFor (iEnumT K tas) g tb ⟨nx, rt, bk, ct⟩ σ H := q
theorem walk_enT (E : El K α) (l : Addr) (xs : List α) : Walk (IteT K l) xs.length (fun H => (kT E).P H (.ref l) xs) (fun i H v H' => ∃ T x u, v = .ref T ∧ H T = none ∧ H' = L2.upd H T (.tup [.int i, u]) ∧ xs[i]? = some x ∧ E.P H u x) :=
  ⟨fun i H hi ⟨a', us, e, h1, h2⟩ => by
    cases e
    obtain ⟨u, hu, _⟩ := h2.getR (List.getElem?_eq_getElem hi)
    exact ⟨us, u, h1, hu⟩, fun H ⟨a', us, e, h1, h2⟩ => by
    cases e
    exact ⟨us, h1, by rw [h2.len]; exact Nat.le_refl _⟩, fun i H x H' hi ⟨a', us, e, h1, h2⟩ ⟨T, u, e1, e2, e3, e4⟩ => by
    cases e
    obtain ⟨y, hy, py⟩ := h2.get (e4 us h1)
    exact ⟨T, y, u, e1, e2, e3, hy, py⟩⟩
theorem walk_enF (E : El K α) (l : Addr) (xs : List α) : Walk (Ite K l) xs.length (fun H => (kFz E).P H (.ref l) xs) (fun i H v H' => ∃ T x u, v = .ref T ∧ H T = none ∧ H' = L2.upd H T (.tup [.int i, u]) ∧ xs[i]? = some x ∧ E.P H u x) :=
  ⟨fun i H hi ⟨a', o, vs, e, z1, z2⟩ => by
    cases e
    exact (walk_enum (K := K) (a := l) (xs := vs)).goes i H (by rw [z2.len]; exact hi) (.inl (.inr ⟨o, z1⟩)), fun H ⟨a', o, vs, e, z1, z2⟩ => by
    cases e
    have := (walk_enum (K := K) (a := l) (xs := vs)).stops H (.inl (.inr ⟨o, z1⟩))
    rw [z2.len] at this
    exact this, fun i H x H' hi ⟨a', o, vs, e, z1, z2⟩ y => by
    cases e
    obtain ⟨T, a, b, e1, e2, e3, e4, e5⟩ := (walk_enum (K := K) (a := l) (xs := vs)).yields i H x H' (by rw [z2.len]; exact hi) (.inl (.inr ⟨o, z1⟩)) y
    obtain rfl : V.int (i : Nat) = a := Option.some.inj e4
    obtain ⟨x', hx, hp⟩ := z2.get e5
    exact ⟨T, x', b, e1, e2, e3, hx, hp⟩⟩
theorem forEn_core {J : It} {G : Hp → Prop} {m0 : M} {bd : Int × α → M → (M → Prop) → (M → Prop) → Prop} {k : M → Prop} {g : TG} {tb : TS} {H : Hp} (w : Walk J xs.length G (fun i H v H' => ∃ T x u, v = .ref T ∧ H T = none ∧ H' = L2.upd H T (.tup [.int i, u]) ∧ xs[i]? = some x ∧ E.P H u x))
    (hm : forL (enI xs) m0 bd k) (up : M → B → List (Option (Option V))) (Pm : M → B → List HA) (b0 : B) (h0 : σ = upds σ (up m0 b0)) (s0 : Sub L (Pm m0 b0 ++ R)) (hG : ∀ m b H', Holds (Pm m b ++ R) H' → G H')
    (hs : (∀ m b, k m → Ent (Pm m b ++ R) (nx (upds σ (up m b)))) → ∀ x m b (nxt : M → Prop), bd x m nxt k → ∀ T v, Ent (tu T [.int x.1, v] :: vl E v x.2 :: (Pm m b ++ R)) fun H => g (.ref T) (upds σ (up m b)) H fun σ2 H2 => tb ⟨fun σ' H' => ∃ m b, nxt m ∧ σ' = upds σ (up m b) ∧ Holds (Pm m b ++ R) H', rt, nx, fun σ' H' => ∃ m b, nxt m ∧ σ' = upds σ (up m b) ∧ Holds (Pm m b ++ R) H'⟩ σ2 H2)
    (hd : ∀ m b, k m → Ent (Pm m b ++ R) (nx (upds σ (up m b)))) (h : Holds L H) : kLoop g tb ⟨nx, rt, bk, ct⟩ σ J H := by
  refine w_loop w (fun i σ' H' => ∃ m b, forL ((enI xs).drop i) m bd k ∧ i ≤ xs.length ∧ σ' = upds σ (up m b) ∧ Holds (Pm m b ++ R) H') ⟨m0, b0, hm, Nat.zero_le _, h0, s0.to h⟩ (fun i σ' H' _ ⟨m, b, _, _, _, z⟩ => hG m b H' z) (fun i v σ' H' H'' hi ⟨m, b, hf, _, e, z⟩ ⟨T, x, u, e2, nT, eH, hx, hp⟩ => ?_) fun σ' H' ⟨m, b, hf, _, e, z⟩ => ?_
  · subst e e2 eH
    have ed : (enI xs).drop i = ((i : Int), x) :: (enI xs).drop (i + 1) := by
      rw [List.drop_eq_getElem_cons (by rw [enI_len]; exact hi)]
      congr 1
      exact Option.some.inj ((List.getElem?_eq_getElem (by rw [enI_len]; exact hi)).symm.trans (enI_get hx))
    rw [ed, forL_cons] at hf
    have z0 : Holds (tu T [.int i, u] :: vl E u x :: (Pm m b ++ R)) (L2.upd H' T (.tup [.int i, u])) := Sub.to Sub.swap ((z.newI (o := .tup [.int i, u]) nT rfl).vl (E := E) (x := x) (v := u) (E.st hp (keepI_new nT)))
    have r := hs hd ((i : Int), x) m b (fun m' => forL ((enI xs).drop (i + 1)) m' bd k ∧ i + 1 ≤ xs.length) (by
      have : (fun m' => forL ((enI xs).drop (i + 1)) m' bd k ∧ i + 1 ≤ xs.length) = fun m' => forL ((enI xs).drop (i + 1)) m' bd k := by
        funext m'
        exact propext ⟨fun z => z.1, fun z => ⟨z, hi⟩⟩
      rw [this]
      exact hf) T u _ z0
    simpa only [and_assoc] using r
  · subst e
    rw [List.drop_eq_nil_of_le (by rw [enI_len]; exact Nat.le_refl _)] at hf
    exact hd m b hf H' z
theorem c_forEnF {m0 : M} {bd : Int × α → M → (M → Prop) → (M → Prop) → Prop} {k : M → Prop} {g : TG} {tb : TS} (hm : forL (enI xs) m0 bd k) (up : M → B → List (Option (Option V))) (Pm : M → B → List HA) (b0 : B) (h0 : σ = upds σ (up m0 b0)) (s0 : Sub L (Pm m0 b0 ++ R)) (t : Take (vl (kFz E) v xs) R R')
    (hs : (∀ m b, k m → Ent (Pm m b ++ R) (nx (upds σ (up m b)))) → ∀ x m b (nxt : M → Prop), bd x m nxt k → ∀ T v, Ent (tu T [.int x.1, v] :: vl E v x.2 :: (Pm m b ++ R)) fun H => g (.ref T) (upds σ (up m b)) H fun σ2 H2 => tb ⟨fun σ' H' => ∃ m b, nxt m ∧ σ' = upds σ (up m b) ∧ Holds (Pm m b ++ R) H', rt, nx, fun σ' H' => ∃ m b, nxt m ∧ σ' = upds σ (up m b) ∧ Holds (Pm m b ++ R) H'⟩ σ2 H2)
    (hd : ∀ m b, k m → Ent (Pm m b ++ R) (nx (upds σ (up m b)))) : Ent L fun H => kEnum K (kLoop g tb ⟨nx, rt, bk, ct⟩ σ) [v] H := fun H h => by
  have fr : ∀ m b H', Holds (Pm m b ++ R) H' → (kFz E).P H' v xs := fun m b H' z => by
    obtain ⟨S, z⟩ := z
    obtain ⟨S1, S2, _, z2, _⟩ := HL.app.mp z
    exact t.vl ⟨S2, z2⟩
  obtain ⟨a, o, us, rfl, h1, h2⟩ := id (fr m0 b0 H (s0.to h))
  exact ⟨a, us, rfl, .inl (.inr ⟨o, h1⟩), forEn_core (walk_enF E a xs) hm up Pm b0 h0 s0 fr hs hd h⟩
theorem c_forEnT {m0 : M} {bd : Int × α → M → (M → Prop) → (M → Prop) → Prop} {k : M → Prop} {g : TG} {tb : TS} (hm : forL (enI xs) m0 bd k) (up : M → B → List (Option (Option V))) (Pm : M → B → List HA) (b0 : B) (h0 : σ = upds σ (up m0 b0)) (s0 : Sub L (Pm m0 b0 ++ R)) (t : Is (kT E) R v xs)
    (hs : (∀ m b, k m → Ent (Pm m b ++ R) (nx (upds σ (up m b)))) → ∀ x m b (nxt : M → Prop), bd x m nxt k → ∀ T v, Ent (tu T [.int x.1, v] :: vl E v x.2 :: (Pm m b ++ R)) fun H => g (.ref T) (upds σ (up m b)) H fun σ2 H2 => tb ⟨fun σ' H' => ∃ m b, nxt m ∧ σ' = upds σ (up m b) ∧ Holds (Pm m b ++ R) H', rt, nx, fun σ' H' => ∃ m b, nxt m ∧ σ' = upds σ (up m b) ∧ Holds (Pm m b ++ R) H'⟩ σ2 H2)
    (hd : ∀ m b, k m → Ent (Pm m b ++ R) (nx (upds σ (up m b)))) : Ent L fun H => kEnumT K (kLoop g tb ⟨nx, rt, bk, ct⟩ σ) [v] H := fun H h => by
  have fr : ∀ m b H', Holds (Pm m b ++ R) H' → (kT E).P H' v xs := fun m b H' z => by
    obtain ⟨S, z⟩ := z
    obtain ⟨S1, S2, _, z2, _⟩ := HL.app.mp z
    exact t H' ⟨S2, z2⟩
  obtain ⟨a, us, rfl, h1, h2⟩ := id (fr m0 b0 H (s0.to h))
  exact ⟨a, us, rfl, h1, forEn_core (walk_enT E a xs) hm up Pm b0 h0 s0 fr hs hd h⟩
theorem ty_ptL {us : List V} (t : Take (pt l (.lst us)) L R) : ∀ H, Holds L H → TyX K H (.ref l) (.type "list") := fun H h => .base (.lst (t.pt h))
theorem c_opnLenT {Es : Els K α} {x : α} (t : Take (vl (kTup Es) v x) L R) (q : ∀ a us, v = .ref a → Ent (vEls Es us x :: tu a us :: L) fun H => rLenK K [v] H Q) : Ent L fun H => rLenK K [v] H Q := Ent.tupO t q
end
end Toy
namespace Toy
open PySem L2 PySem.Spec PyProof.Rows
/-! ## calls that may let an exception out, the slots kept -/
section
variable {X : Cx} {CX : CXT} {k n i : Nat} {f : Addr} {fd : FuncData} {ps ks : List Str} {sp : Sp} {E : L2.St → XK} {x : Str} {p pos : Pos} {e : Expr} {es : List Expr} {kws : List Keyword} {t tk : TA} {g : List Value → List Value → List Value} {gV : List V → List V → List V}
theorem run_fnNS {pins : List (Addr × Obj)} {σ : L2.St} {H : Hp} {s : Shared} {Q : VK} {us ws : List Value} {vs zs : List V} (F : FnOk X.prog X.w X.K X.mg X.base CX k f fd ps sp) (hr : Room k X.A) (hb : KBn X.K fd ps n ks g gV) (hx : PassesAt CX X σ (E σ))
    (I : Inv X pins σ H s) (r : Vals vs us) (rz : Vals zs ws) (l1 : vs.length = n) (l2 : zs.length = ks.length) (h : sp (gV vs zs) H Q (E σ)) : wpAny (model X.prog X.w) X.A (call (.ref f) us (ks.zip ws)) (EP X pins σ Q) X.xe s := by
  have r2 := hb.rel r rz
  refine wpAny_call (codeAny_mono (F.run X.A X.stack s H ⟨us, ks.zip ws⟩ (g us ws) (gV vs zs) Q (E σ) hr I.env0 (hb.to s us ws I.kIn (r.length.symm.trans l1) (rz.length.symm.trans l2)) r2 h) fun r s' hq => ?_)
  cases r with
  | error e => exact hx pins H s e s' I hq
  | ok fl =>
    cases fl with
    | ret u => exact I.after hq
    | next => exact False.elim hq
    | brk => exact False.elim hq
    | cont => exact False.elim hq
def tCallNS (j l : Nat) (sp : Sp) (gV : List V → List V → List V) (E : L2.St → XK) (t tk : TA) : TE := fun σ H Q => t σ H fun vs H1 => tk σ H1 fun zs H2 => vs.length = j ∧ zs.length = l ∧ sp (gV vs zs) H2 Q (E σ)
/-- f(k = v, ..) in a try -/
theorem pe_callN0S (F : FnOk X.prog X.w X.K X.mg X.base CX k f fd ps sp) (hr : Room k X.A) (hg : Gl X x) (hm : X.mg x = some (.ref f)) (hk : PySem.W.keepIn X.K (.ref f) = true) (hb : KBn X.K fd ps 0 ks g gV) (hx : ∀ σ, PassesAt CX X σ (E σ)) (hkw : PK X kws tk)
    (hall : (backToKw pos (keywordEach kws X.env)).all (·.1.isSome) = true := by rfl) (hks : (backToKw pos (keywordEach kws X.env)).filterMap (·.1) = ks := by rfl)
    (hdb : (x == ("__debug__" : Str)) = false := by decide)
    (hpl : ((backTo pos (starEach [] X.env)).any (·.1) || (backToKw pos (keywordEach kws X.env)).any (·.1.isNone)) = false := by rfl) :
    PE X (.Call (.Name x p) [] kws pos) (tCallNS 0 ks.length sp gV E tNil tk) := by
  refine ⟨fun pins s σ H Q I h => ?_⟩
  refine wpAny_Call_Name_kw (ld_glob I hg hm ?_ hdb)
  refine PySem.W.callWith_KW0 (h₀ := X.base) I.ok.mod.kin hk hall ?_ hpl
  refine thn (hkw.run pos pins s σ H _ I h) fun ws s2 ⟨zs, H2, I2, rz, l1, l2, q2⟩ => ⟨I2.kIn, ?_⟩
  rw [hks]
  exact run_fnNS (us := []) (vs := []) F hr hb (hx σ) I2 .nil rz rfl l2 q2
/-- a def that a local holds, one of several: each with its promise, and what it may let out -/
structure HeldX (P : Program) (w : World) (K : PySem.W.Frag) (mg : Str → Option Value) (base : Heap) (k : Nat) (f : Addr) (sp : Sp) : Prop where
  ex : ∃ (l : Nat) (fd : FuncData) (ps : List Str), l ≤ k ∧ FnOk P w K mg base (L2.CX P w) l f fd ps sp ∧ PySem.W.keepIn K (.ref f) = true ∧ Binds K fd ps []
def tCallX (i : Nat) (S : Addr → Sp → Prop) (E : L2.St → XK) (t : TA) : TE := fun σ H Q => ∃ f sp, σ[i]? = some (some (.ref f)) ∧ S f sp ∧ t σ H fun vs H1 => sp vs H1 Q (E σ)
theorem pe_callX {S : Addr → Sp → Prop} (A : ∀ f sp, S f sp → HeldX X.prog X.w X.K X.mg X.base k f sp) (hr : Room k X.A) (hN : X.N[i]? = some x) (hv : Vis X.env.scope x) (hx : ∀ σ, PassesAt (L2.CX X.prog X.w) X σ (E σ)) (ha : PA X (e :: es) t)
    (hdb : (x == ("__debug__" : Str)) = false := by decide) (hcd : (x == ("__classdict__" : Str)) = false := by decide)
    (he : starEach (e :: es) X.env = (false, eval e X.env) :: starEach es X.env := by rfl) (hpl : (backTo pos (starEach es X.env)).any (·.1) = false := by rfl) : PE X (.Call (.Name x p) (e :: es) [] pos) (tCallX i S E t) := by
  refine ⟨fun pins s σ H Q I h => ?_⟩
  obtain ⟨f, sp, hs, hS, ht⟩ := h
  obtain ⟨l, fd, ps, hl, F, hk, hb⟩ := (A f sp hS).ex
  refine wpAny_Call_Name_kw (thn ((pe_var (pos := p) hN hv hdb hcd).run pins s σ H (fun v H1 => v = .ref f ∧ H1 = H) I ⟨.ref f, hs, rfl, rfl⟩) fun u s1 ⟨v, H1, I1, r1, q1⟩ => ?_)
  obtain ⟨rfl, rfl⟩ := q1
  cases r1
  refine PySem.W.callWith_K (h₀ := X.base) I.ok.mod.kin hk (thn (ha.run pos pins s1 σ _ _ I1 ht) fun us s2 ⟨vs, H2, I2, r, q⟩ => ⟨I2.kIn, ?_⟩) he hpl
  exact run_fnS F (hr.mono hl) hb (hx σ) I2 r q
/-- what a def's own wish takes, a call of it may let out -/
theorem pass_own {X : Cx} {E : XK} (tk : Takes X fun cls d _ H => E cls d H) (σ : L2.St) : PassesAt (L2.CX X.prog X.w) X σ ((fun _ => E) σ) := fun pins H s e s' I c => tk e s' (XE.of_call I (fun _ _ _ h => h) c)
end
/-! ## C(), C's own __init__ taking nothing -/
section
variable {X : Cx} {CX : CXT} {x : Str} {C fI : Addr} {k : Nat} {fd : FuncData} {ps : List Str} {sp : Sp} {ds : List Value} {dvs : List V} {p pos : Pos}
theorem pmk_oex0 (T : OexC X.K C) (iC : PySem.W.findIn X.K (.ref C) "__init__" = some (some (.ref fI)))
    (tI : PySem.W.typeIn X.K (.ref fI) = some (.type "function")) (F1 : FnOk X.prog X.w X.K X.mg X.base CX k fI fd ps sp)
    (hr : Room (k + 1) X.A) (hb : Binds X.K fd ps ds) (hd : Vals dvs ds) (hx : Passes CX X (fun _ _ _ => False)) (hg : Gl X x)
    (hm : X.mg x = some (.ref C)) (hdb : (x == ("__debug__" : Str)) = false := by decide) : PMk X (.Call (.Name x p) [] [] pos) (tMkO C sp dvs tNil) := by
  intro pins s σ H Q I h
  obtain ⟨a1, a2, a3, a4, a5, a6, a7, a8, a9, b1, b2, b3, b4, b5, b6, hC, hbm⟩ := T.cls
  refine wpAny_Call_Name_kw (ld_glob I hg hm ?_ hdb)
  refine PySem.W.callWith_K0 I.kIn T.kC ?_
  obtain ⟨hp, g, dr, tk, os⟩ := s
  have hs : hp.objs.size ≤ hp.objs.size + 1 := Nat.le_succ _
  have hq := h.2 (hp.objs.size + 1) (I.hok.fresh hs)
  have old : ∀ b o, hp.get? b = some o → ((hp.push (PySem.W.kdv_tup ([] ++ []))).push (PySem.HandSPX.excO C hp.objs.size)).get? b = some o :=
    fun b o e => Heap.get?_push_of_some _ (Heap.get?_push_of_some _ e)
  have new : ((hp.push (PySem.W.kdv_tup ([] ++ []))).push (PySem.HandSPX.excO C hp.objs.size)).get? (hp.objs.size + 1) = some (PySem.HandSPX.excO C hp.objs.size) := by heap_get
  have J : Inv X pins σ (L2.upd H (hp.objs.size + 1) (exo (hp.objs.size + 1) C none)) ⟨(hp.push (PySem.W.kdv_tup ([] ++ []))).push (PySem.HandSPX.excO C hp.objs.size), g, dr, tk, os⟩ :=
    I.laid (t' := tk) old hs (exo_ok new)
  have vals : Vals (V.ref (hp.objs.size + 1) :: ([] ++ dvs)) ([Value.ref (hp.objs.size + 1)] ++ ds) := .cons rfl hd
  have len : ([Value.ref (hp.objs.size + 1)] ++ ds).length = ps.length := by
    have e := vals.length
    rw [F1.len _ _ _ _ hq] at e
    exact e.symm
  refine wpAny_call (PySem.HandSPX.call_own F.excBase_ValueError (fun Y => PySem.HandSPX.refsVE_contains Y _ hbm) (I.kIn _ _ hC)
    (PySem.W.looks_findIn I.kIn iC) (fun self => PySem.W.bind_fn I.kIn self tI) (by rw [sizeLine_eq]; decide)
    (codeAny_mono (F1.run _ X.stack _ _ ⟨[Value.ref (hp.objs.size + 1)], []⟩ ([Value.ref (hp.objs.size + 1)] ++ ds) _ _ (fun _ _ _ => False)
      (hr.make C [] []) (J.env0.make C [] []) (hb _ [Value.ref (hp.objs.size + 1)] J.kIn len) vals hq) fun r s' fin => ?_))
  match r with
  | .error er => exact hx pins σ _ _ er s' J fin
  | .ok .next => exact fin.elim
  | .ok .brk => exact fin.elim
  | .ok .cont => exact fin.elim
  | .ok (.ret u) =>
    obtain ⟨v, H2, c1, c2, un2, c4, rv, ev, d, fs, ea, ed, hd1, q2⟩ := fin
    obtain ⟨h2, g2, d2, t2, os'⟩ := s'
    subst ev
    exact ⟨rv, mk_end (raises_own T.exC T.tyC) I hs old un2 c4 c1 c2 ea ed hd1 q2⟩
end
/-! ## in the logic of places -/
section
variable {K : PySem.W.Frag} {L R : List HA} {Q : VK} {σ : L2.St} {H : Hp} {t tk ta : TA} {sp : Sp} {E : L2.St → XK} {gV : List V → List V → List V}
theorem e_callS0 (q : Ent L fun H => t σ H fun vs H1 => sp vs H1 Q (E σ)) : Ent L fun H => tCallS sp E t σ H Q := q
theorem e_callNS0 {j l : Nat} (q : Ent L fun H => t σ H fun vs H1 => tk σ H1 fun zs H2 => vs.length = j ∧ zs.length = l ∧ sp (gV vs zs) H2 Q (E σ)) : Ent L fun H => tCallNS j l sp gV E t tk σ H Q := q
theorem e_callX0 {i : Nat} {f : Addr} {S : Addr → Sp → Prop} (hs : σ[i]? = some (some (.ref f))) (hS : S f sp) (q : Ent L fun H => t σ H fun vs H1 => sp vs H1 Q (E σ)) : Ent L fun H => tCallX i S E t σ H Q := fun H h => ⟨f, sp, hs, hS, q H h⟩
/-! an own exception made and raised -/
def spCoreN (K : PySem.W.Frag) : Sp := fun vs H Q _ => ∃ (x C : Addr), vs = [.ref x] ∧ OexC K C ∧ PySem.W.findIn K (.ref C) "value" = some none ∧ H x = some (exo x C none) ∧
  ∀ dx, H dx = none → dx ≠ x → Q .non (L2.upd (L2.upd H dx (exd dx [("value", .non)])) x (exo x C (some dx)))
def kMko (C : Addr) (sp : Sp) (dvs : List V) (Q : XK) (vs : List V) (H1 : Hp) : Prop := vs.length ≤ 1000 ∧ ∀ a, H1 a = none → sp (.ref a :: (vs ++ dvs)) (L2.upd H1 a (exo a C none))
  (fun v H2 => v = .non ∧ ∃ (d : Addr) (fs : List (Str × V)), H2 a = some (exo a C (some d)) ∧ H2 d = some (exd d fs) ∧ H1 d = none ∧ Q (.ref C) (some d) (L2.upd (del H2 a) d (.xd fs))) (fun _ _ _ => False)
theorem e_mko0 {C : Addr} {dvs : List V} {Qx : XK} (q : Ent L fun H => ta σ H fun vs H1 => kMko C sp dvs Qx vs H1) : Ent L fun H => tMkO C sp dvs ta σ H Qx := q
theorem w_coreN {C : Addr} {Q : XK} (hC : OexC K C) (hn : PySem.W.findIn K (.ref C) "value" = some none) (q : ∀ d H', Same H H' → H d = none → H' d = some (.xd [("value", .non)]) → Q (.ref C) (some d) H') : kMko C (spCoreN K) [] Q [] H := by
  refine ⟨by show 0 ≤ 1000; decide, fun x nx => ⟨x, C, rfl, hC, hn, upd_same, fun dx ndx hne => ⟨rfl, dx, _, upd_same, (upd_ne hne).trans upd_same, ?_, q dx _ ?_ ?_ upd_same⟩⟩⟩
  · rw [upd_ne hne] at ndx
    exact ndx
  · intro b o e
    have hb : b ≠ x := ne_of_none e nx
    have hd : b ≠ dx := by
      intro z
      rw [z] at e
      rw [upd_ne hne, e] at ndx
      cases ndx
    rw [upd_ne hd, del_ne hb, upd_ne hb, upd_ne hd, upd_ne hb]
    exact e
  · rw [upd_ne hne] at ndx
    exact ndx
theorem e_coreN {C : Addr} {Qx : XK} (hC : OexC K C) (hn : PySem.W.findIn K (.ref C) "value" = some none) (q : ∀ d, Ent (im d (.xd [("value", .non)]) :: L) (Qx (.ref C) (some d))) : Ent L fun H => kMko C (spCoreN K) [] Qx [] H := fun H h =>
  w_coreN hC hn fun d H' s _ e => q d H' ((h.same s).addI e rfl)
theorem e_coreV {C : Addr} {v : V} {Qx : XK} (hC : OexC K C) (hn : PySem.W.findIn K (.ref C) "value" = some none) (q : ∀ d, Ent (im d (.xd [("value", v)]) :: L) (Qx (.ref C) (some d))) : Ent L fun H => kMko C (spCore K) [] Qx [v] H := fun H h =>
  w_core hC hn fun d H' s _ e => q d H' ((h.same s).addI e rfl)
/-- the handler of a try takes what flies -/
theorem e_only {c cls : Value} {ts : Addr → Value → Option Addr → TS} {Wout : WX} {D : Ends} {d : Option Addr} (h : PySem.W.exmOne K cls c = some true) (q : ∀ a, Ent L fun H => ts a cls d D σ H) : Ent L fun H => WE (wOnly K c ts Wout D) σ cls d H := fun H z => w_only h fun a _ => q a H z
end
/-! ## the sum of a tuple of whole numbers -/
section
variable {X : Cx}
def rSumT (K : PySem.W.Frag) : List V → Hp → VK → Prop := fun vs H Q => ∃ (a : Addr) (ns : List Int), vs = [V.ref a] ∧ SqT K H a (ns.map V.int) ∧ Q (.int ns.sum) H
theorem sumT_raw {prog : Program} {w : World} {A : Around} {E : Value → Shared → Prop} {s : Shared} {l : Addr} {its : List Value} {ns : List Int} {Q : Value → Shared → Prop} (hh : A.handled = none) (hl : s.heap.IsTuple l its.toArray) (hi : IntsAre its ns)
    (h : ∀ h' tk t', (∀ b o, s.heap.get? b = some o → h'.get? b = some o) → Q (.int ns.sum t') { s with heap := h', toks := tk }) : wpAny (model prog w) A (call (.builtin "sum") [.ref l]) Q E s := by
  obtain ⟨xs, e⟩ := hi.allInts.items
  have hn : numsOf (intItems xs).toList = ns := by rw [← e]; exact hi.numsOf
  rw [nums_intItems] at hn
  rw [e] at hl
  refine PySem.W.ktm_sumG hh hl fun h' tk t' hk => ?_
  have := h h' tk t' hk
  rw [preSum_eq, List.take_of_length_le (by simp), hn]; exact this
theorem cr_sumT {K : PySem.W.Frag} (hc : X.calm = true) (hK : X.K = K := by rfl) : CallR X (.builtin "sum") (rSumT K) := by
  subst hK
  intro pins s σ H vs us Q I r h
  obtain ⟨a, ns, rfl, hs, q⟩ := h
  obtain ⟨its, rv, hl, _⟩ := I.tuple hs
  rw [Vals.ref1 r]
  exact sumT_raw (I.ok.hd hc) hl rv.ints fun h' tk t' hk => ⟨.int _, H, I.kept hk, ⟨_, rfl⟩, q⟩
end
section
variable {K : PySem.W.Frag} {L R : List HA} {Q : VK} {a : Addr} {v : V}
theorem c_sumT2 {x y : Int} (h : HasT K L a [.int x, .int y]) (q : Ent L (Q (.int (x + (y + 0))))) : Ent L fun H => rSumT K [.ref a] H Q := fun H z => ⟨a, [x, y], rfl, h H z, q H z⟩
theorem c_sumTv {xs : List Int} (h : Is (kT (kI (K := K))) L v xs) (q : Ent L (Q (.int xs.sum))) : Ent L fun H => rSumT K [v] H Q := fun H z => by
  obtain ⟨b, ws, rfl, g1, g2⟩ := h H z
  have e : ws = xs.map V.int := by
    clear g1 q h z
    induction g2 with
    | nil => rfl
    | cons a _ ih => rw [List.map_cons, ← ih]; congr 1
  subst e
  exact ⟨b, xs, rfl, g1, q H z⟩
end
/-! ## a written dict with text keys, of one kind -/
section
variable {K : PySem.W.Frag} {α : Type} {L R : List HA} {Q : VK} {E : El K α} {p : Addr} {ds : List (Str × α)} {kvs : List (L2.Key × V)} {ps : List (V × V)} {v : V} {x : α} {k : Str}
theorem isD_nil : ∀ H, Holds L H → All2 (DkR fS E H) [] [] := fun _ _ => .nil
theorem isD_c (h : Is E L v x) (g : ∀ H, Holds L H → All2 (DkR fS E H) kvs ds) : ∀ H, Holds L H → All2 (DkR fS E H) ((fS k, v) :: kvs) ((k, x) :: ds) := fun H z => .cons ⟨rfl, h H z⟩ (g H z)
theorem mkDk (t : Take (pt p (.dK [])) L R) (ep : ps = kvs.map (fun kv => (kV kv.1, kv.2))) (hl : kvs.length ≤ 15) (e : mergeK [] kvs = kvs) (h : ∀ H, Holds R H → All2 (DkR fS E H) kvs ds) (q : Ent (dk fS E p ds :: R) (Q (.ref p))) : Ent L fun H => kDisp p Q ps H :=
  mkR t ep hl e fun H z => q H (z.dk_mk (h H (Sub.to (Sub.drop Sub.refl) z)))
end
end Toy
namespace Toy
open PySem L2 PySem.Spec PyProof.Rows
/-! ## for p in zip(xs, ys): the name holds the tuple that came first, so the zip makes each tuple anew -/
section
variable {X : Cx} {z TI TO i1 i2 a b : Addr}
def ZSt (z TI TO i1 i2 a b : Addr) (i : Nat) (c : Option Addr) (h : Heap) : Prop :=
  (c = none ∧ IsZip h z TI TO .none ∨ ∃ T f, c = some T ∧ IsZipHeld h z TI TO T f) ∧
    IsPair h TI (.ref i1) (.ref i2) ∧ (∃ x y, IsPair h TO x y) ∧ h.IsListIter i1 a i ∧ h.IsListIter i2 b i
theorem ZSt.keep {i : Nat} {c : Option Addr} {h h' : Heap} (st : ZSt z TI TO i1 i2 a b i c h) (k : ∀ e ∈ [z, TI, TO, i1, i2], ∀ o, h.get? e = some o → h'.get? e = some o) : ZSt z TI TO i1 i2 a b i c h' := by
  obtain ⟨hz, q1, ⟨x, y, q2⟩, q3, q4⟩ := st
  have kz := k z (by simp)
  refine ⟨?_, k TI (by simp) _ q1, ⟨x, y, k TO (by simp) _ q2⟩, q3.at (k i1 (by simp)), q4.at (k i2 (by simp))⟩
  rcases hz with ⟨e, q⟩ | ⟨T, f, e, q⟩
  · exact .inl ⟨e, kz _ q⟩
  · exact .inr ⟨T, f, e, kz _ q⟩
theorem ZSt.obj {i : Nat} {c : Option Addr} {h : Heap} (st : ZSt z TI TO i1 i2 a b i c h) : ∀ e ∈ [z, TI, TO, i1, i2], ∃ o, h.get? e = some o ∧ ∀ v, o.data ≠ .cell v := by
  obtain ⟨hz, q1, ⟨x, y, q2⟩, ⟨o1, e1, _, d1⟩, ⟨o2, e2, _, d2⟩⟩ := st
  intro e he
  simp only [List.mem_cons, List.not_mem_nil, or_false] at he
  rcases he with e0 | e0 | e0 | e0 | e0 <;> rw [e0]
  · rcases hz with ⟨_, q⟩ | ⟨T, f, _, q⟩
    · exact ⟨_, q, fun v w => nomatch w⟩
    · exact ⟨_, q, fun v w => nomatch w⟩
  · exact ⟨_, q1, fun v w => nomatch w⟩
  · exact ⟨_, q2, fun v w => nomatch w⟩
  · exact ⟨o1, e1, fun v w => by rw [d1] at w; cases w⟩
  · exact ⟨o2, e2, fun v w => by rw [d2] at w; cases w⟩
theorem zst_item {E : Value → Shared → Prop} {pins : List (Addr × Obj)} {σ : L2.St} {H : Hp} {s : Shared} {i : Nat} {c : Option Addr} {xs ys : List V} {x y : V} (D : ZipApart z TI TO i1 i2 a b) (I : Inv X pins σ H s)
    (hf : ∀ e ∈ [z, TI, TO, i1, i2], FpOk X pins H e) (st : ZSt z TI TO i1 i2 a b i c s.heap) (hx : SqL X.K H a xs) (hy : SqL X.K H b ys) (gx : xs[i]? = some x) (gy : ys[i]? = some y)
    (hT : ∀ T, c = some T → ∃ us, H T = some (.tup us)) :
    wpAny (model X.prog X.w) X.A (pyNext (.ref z)) (fun r s1 => ∃ T, r = some (.ref T) ∧ H T = none ∧ Inv X pins σ (L2.upd H T (.tup [x, y])) s1 ∧ ZSt z TI TO i1 i2 a b (i + 1) (some (c.getD T)) s1.heap ∧ ∀ e ∈ [z, TI, TO, i1, i2], L2.upd H T (.tup [x, y]) e = none) E s := by
  have live := st.obj
  obtain ⟨hz, q1, ⟨x0, y0, q2⟩, q3, q4⟩ := st
  obtain ⟨us, ru, pu, _⟩ := I.list hx
  obtain ⟨ws, rw', pw, _⟩ := I.list hy
  obtain ⟨u, hu, r1⟩ := ru.get gx
  obtain ⟨v, hv, r2⟩ := rw'.get gy
  have free : H s.heap.objs.size = none := I.hok.fresh (Nat.le_refl _)
  have apart : ∀ e ∈ [z, TI, TO, i1, i2], L2.upd H s.heap.objs.size (.tup [x, y]) e = none := fun e he => by
    obtain ⟨o, eo, _⟩ := live e he
    rw [upd_ne (Nat.ne_of_lt (Heap.lt_size eo))]
    exact (hf e he).1
  have grow : ∀ (h' : Heap), IsPair h' s.heap.objs.size u v → (∀ e o, e ∉ [z, TI, TO, i1, i2] → s.heap.get? e = some o → h'.get? e = some o) → Inv X pins σ (L2.upd H s.heap.objs.size (.tup [x, y])) { s with heap := h' } := fun h' hp k =>
    I.turnedNew (t' := s.toks) (ch := [z, TI, TO, i1, i2]) (fun e o he => k e o he) hf (Nat.le_refl _) ⟨by show 2 ≤ sizeLine; decide, [u, v], .cons r1 (.cons r2 .nil), ⟨_, hp, rfl, _, rfl⟩⟩
  have gu : us.toArray[i]? = some u := by simpa using hu
  have gv : ws.toArray[i]? = some v := by simpa using hv
  rcases hz with ⟨ec, hz⟩ | ⟨T, f, ec, hz⟩
  · subst ec
    refine wpAny_pyNext_zip_item D hz q1 q2 q3 q4 pu.isList pw.isList gu gv fun h' a1 a2 a3 a4 a5 _ a7 => ?_
    refine ⟨_, rfl, free, grow h' a5 fun e o he => a7 e o (fun w => he (by simp [w])) (fun w => he (by simp [w])) (fun w => he (by simp [w])) (fun w => he (by simp [w])), ⟨.inr ⟨_, false, rfl, a1⟩, ?_, ⟨u, v, a2⟩, a3, a4⟩, apart⟩
    exact a7 _ _ D.TIz D.TITO D.TIi1 D.TIi2 q1
  · obtain ⟨ts, eT⟩ := hT T ec
    subst ec
    obtain ⟨os, _, ⟨oT, hoT, _⟩, _⟩ := I.tuple (SqT.of eT)
    refine wpAny_pyNext_zip_item_held D hz hoT q1 q3 q4 pu.isList pw.isList gu gv fun h' a1 a3 a4 a5 _ a7 => ?_
    refine ⟨_, rfl, free, grow h' a5 fun e o he => a7 e o (fun w => he (by simp [w])) (fun w => he (by simp [w])) (fun w => he (by simp [w])), ⟨.inr ⟨T, true, rfl, a1⟩, ?_, ⟨x0, y0, ?_⟩, a3, a4⟩, apart⟩
    · exact a7 _ _ D.TIz D.TIi1 D.TIi2 q1
    · exact a7 _ _ D.TOz D.TOi1 D.TOi2 q2
theorem zst_done {E : Value → Shared → Prop} {pins : List (Addr × Obj)} {σ : L2.St} {H : Hp} {s : Shared} {i : Nat} {c : Option Addr} {xs ys : List V} (hc : X.calm = true) (D : ZipApart z TI TO i1 i2 a b) (I : Inv X pins σ H s)
    (hf : ∀ e ∈ [z, TI, TO, i1, i2], FpOk X pins H e) (st : ZSt z TI TO i1 i2 a b i c s.heap) (hx : SqL X.K H a xs) (hy : SqL X.K H b ys) (hn : xs.length ≤ i ∨ ys.length ≤ i)
    (hT : ∀ T, c = some T → ∃ us, H T = some (.tup us)) : wpAny (model X.prog X.w) X.A (pyNext (.ref z)) (fun r s1 => r = none ∧ Inv X pins σ H s1) E s := by
  obtain ⟨hz, q1, ⟨x0, y0, q2⟩, q3, q4⟩ := st
  obtain ⟨us, ru, pu, _⟩ := I.list hx
  obtain ⟨ws, rw', pw, _⟩ := I.list hy
  have n1 := ru.length
  have n2 := rw'.length
  have fin : us.toArray[i]? = none ∨ ws.toArray[i]? = none := by
    rcases hn with w | w
    · exact .inl (by simp; omega)
    · exact .inr (by simp; omega)
  rcases hz with ⟨ec, hz⟩ | ⟨T, f, ec, hz⟩
  · refine wpAny_pyNext_zip_end (I.ok.hd hc) D hz q1 q2 q3 q4 pu.isList pw.isList fin fun h' k => ⟨rfl, ?_⟩
    exact I.turnedL (t' := s.toks) (ch := [z, TI, TO, i1, i2]) (fun e o he => k e o (fun w => he (by simp [w])) (fun w => he (by simp [w])) (fun w => he (by simp [w])) (fun w => he (by simp [w]))) hf
  · obtain ⟨ts, eT⟩ := hT T ec
    obtain ⟨os, _, ⟨oT, hoT, _⟩, _⟩ := I.tuple (SqT.of eT)
    refine wpAny_pyNext_zip_end_held (I.ok.hd hc) D hz hoT q1 q3 q4 pu.isList pw.isList fin fun h' k => ⟨rfl, ?_⟩
    exact I.turnedL (t' := s.toks) (ch := [z, TI, TO, i1, i2]) (fun e o he => k e o (fun w => he (by simp [w])) (fun w => he (by simp [w])) (fun w => he (by simp [w]))) hf
def kForZN (K : PySem.W.Frag) (g : TG) (tb : TS) (D : Ends) (σ : L2.St) (vs : List V) (H1 : Hp) : Prop := ∃ (a b : Addr) (us ws : List V) (n : Nat) (W : Nat → Option Addr → L2.St → Hp → Prop), vs = [.ref a, .ref b] ∧ SqL K H1 a us ∧ SqL K H1 b ws ∧ W 0 none σ H1 ∧ ∀ i c σ' H', W i c σ' H' →
  (∀ T, c = some T → ∃ us, H' T = some (.tup us)) ∧ ∃ xs ys, SqL K H' a xs ∧ SqL K H' b ys ∧ ((n ≤ i ∧ (xs.length ≤ i ∨ ys.length ≤ i) ∧ D.nx σ' H') ∨ (i < n ∧ ∃ x y, xs[i]? = some x ∧ ys[i]? = some y ∧
    ∀ T, H' T = none → ∃ N : L2.St → Hp → Prop, (∀ σ3 H3, N σ3 H3 → W (i + 1) (some (c.getD T)) σ3 H3) ∧ g (.ref T) σ' (L2.upd H' T (.tup [x, y])) fun σ2 H2 => tb ⟨N, D.rt, D.nx, N⟩ σ2 H2))
def tForZN (K : PySem.W.Frag) (ta : TA) (g : TG) (tb : TS) : TS := fun D σ H => ta σ H fun vs H1 => kForZN K g tb D σ vs H1
theorem ps_forZN {e e2 : Expr} {y : Str} {body : List Stmt} {ta : TA} {g : TG} {tb : TS} {p p2 tp pos : Pos} (hp : PassesOwn (model X.prog X.w) X.A X.env X.xe) (hc : X.calm = true) (hg : Gl X "zip") (hm : X.mg "zip" = none) (ha : PA X [e, e2] ta) (hgt : PG X (.Name y tp) g) (hb : PSs X body tb)
    (hst : starEach [e, e2] X.env = (false, eval e X.env) :: starEach [e2] X.env := by rfl) (hpl : (backTo p2 (starEach [e2] X.env)).any (·.1) = false := by rfl)
    (hs : ∀ x, foldedSetIterable (.Call (.Name "zip" p) [e, e2] [] p2) X.env x = pure x := by intro _; rfl) : PS X (.For (.Name y tp) (.Call (.Name "zip" p) [e, e2] [] p2) body [] pos) (tForZN X.K ta g tb) := by
  refine ⟨fun pins s σ H D I h => ?_⟩
  refine wpAny_For (Call_ (ld_blt I hg hm PyProof.Rows.boot_zip (PyProof.Rows.callWith_type1 (thn (ha.run p2 pins s σ H _ I h) fun us s1 ⟨vs, H1, I1, r1, q1⟩ => ?_) hst hpl))) hs
  obtain ⟨a, b, us0, ws0, n, W, ex, hxa, hyb, w0, turn⟩ := q1
  subst ex
  obtain ⟨va, vb, rfl⟩ : ∃ va vb, us = [va, vb] := by
    cases r1 with
    | cons r rr => cases rr with
      | cons r' rr => cases rr; exact ⟨_, _, rfl⟩
  obtain rfl : va = Value.ref a := by cases r1 with | cons r rr => exact r
  obtain rfl : vb = Value.ref b := by cases r1 with | cons r rr => cases rr with | cons r' _ => exact r'
  obtain ⟨its, _, pa, _⟩ := I1.list hxa
  obtain ⟨its2, _, pb, _⟩ := I1.list hyb
  refine call_zip_2 pa.isList pb.isList fun h' hz hTI hTO h1 h2 hsz hk => ?_
  refine wpAny_pyIter_zip hz ?_
  have I2 : Inv X pins σ H1 { s1 with heap := h' } := I1.kept (t' := s1.toks) hk
  have D5 := PySem.W.ktu_apart s1.heap.objs.size a b pa.lt pb.lt
  have S0 : ZSt (s1.heap.objs.size + 4) (s1.heap.objs.size + 2) (s1.heap.objs.size + 3) s1.heap.objs.size (s1.heap.objs.size + 1) a b 0 none h' := ⟨.inl ⟨rfl, hz⟩, hTI, ⟨_, _, hTO⟩, h1, h2⟩
  have F0 : ∀ e ∈ [s1.heap.objs.size + 4, s1.heap.objs.size + 2, s1.heap.objs.size + 3, s1.heap.objs.size, s1.heap.objs.size + 1], FpOk X pins H1 e := fun e he => by
    have big : s1.heap.objs.size ≤ e := by
      simp only [List.mem_cons, List.not_mem_nil, or_false] at he
      omega
    exact I1.fpOk big (I1.hok.fresh big)
  revert S0 F0 D5
  generalize s1.heap.objs.size + 4 = z, s1.heap.objs.size + 2 = TI, s1.heap.objs.size + 3 = TO, s1.heap.objs.size + 1 = i2
  generalize s1.heap.objs.size = i1
  intro D5 S0 F0
  have stay : ∀ {H' : Hp}, (∀ e ∈ [z, TI, TO, i1, i2], H' e = none) → ∀ e ∈ [z, TI, TO, i1, i2], FpOk X pins H' e := fun hn e he => ⟨hn e he, (F0 e he).2⟩
  refine codeAny_forLoop_any (fun m s' => ∃ i c σ' H', i + m = n ∧ Inv X pins σ' H' s' ∧ ZSt z TI TO i1 i2 a b i c s'.heap ∧ (∀ e ∈ [z, TI, TO, i1, i2], H' e = none) ∧ W i c σ' H') ?_ n ⟨0, none, σ, H1, Nat.zero_add n, I2, S0, fun e he => (F0 e he).1, w0⟩
  rintro m s3 ⟨i, c, σ3, H3, em, I3, S3, fr3, w3⟩
  obtain ⟨hT, xs, ys, hxs, hys, way⟩ := turn i c σ3 H3 w3
  rcases way with ⟨_, over, qn⟩ | ⟨lt, x, y', gx, gy, step⟩
  · refine wpAny_passesOwn hp (thn (zst_done (E := X.xe) hc D5 I3 (stay fr3) S3 hxs hys over hT) fun r s4 ⟨er, I4⟩ => ?_)
    subst er
    exact wpAny_execs_nil ⟨σ3, H3, I4, qn⟩
  · refine wpAny_passesOwn hp (thn (zst_item (E := X.xe) D5 I3 (stay fr3) S3 hxs hys gx gy hT) fun r s5 ⟨T, er, nT, I5, S5, fr5⟩ => ?_)
    subst er
    refine wpAny_pure ?_
    obtain ⟨N, hN, go⟩ := step T nT
    have I6 := I5.pinned (stay fr5) S5.obj
    refine wpAny_passesOwn hp (thn (hgt.run _ s5 σ3 _ (.ref T) (.ref T) _ I6 rfl go) fun _ s6 ⟨σ6, H6, I7, q6⟩ => ?_)
    refine wpAny_passesOwn hp (thn (hb.run _ s6 σ6 H6 _ I7 q6) fun f s7 q7 => ?_)
    have next : ∀ {σ7 : L2.St} {H7 : Hp}, Inv X (pins ++ pinsAt [z, TI, TO, i1, i2] s5.heap) σ7 H7 s7 → W (i + 1) (some (c.getD T)) σ7 H7 →
        ∃ k, k < m ∧ ∃ i c σ' H', i + k = n ∧ Inv X pins σ' H' s7 ∧ ZSt z TI TO i1 i2 a b i c s7.heap ∧ (∀ e ∈ [z, TI, TO, i1, i2], H' e = none) ∧ W i c σ' H' := fun {σ7 H7} J w7 => by
      have pin : ∀ {e : Addr} {o : Obj}, e ∈ [z, TI, TO, i1, i2] → s5.heap.get? e = some o → s7.heap.get? e = some o ∧ H7 e = none := fun {e o} he eo => by
        have q := J.pin (e, o) (List.mem_append_right _ (List.mem_append_right _ (mem_pinsAt he eo)))
        exact ⟨q.1, q.2.1⟩
      refine ⟨m - 1, by omega, i + 1, _, σ7, H7, by omega, J.unpinned, S5.keep fun e he o eo => (pin he eo).1, fun e he => ?_, w7⟩
      obtain ⟨o, eo, _⟩ := S5.obj e he
      exact (pin he eo).2
    cases f with
    | next => obtain ⟨σ7, H7, J, w7⟩ := q7; exact next J (hN _ _ w7)
    | cont => obtain ⟨σ7, H7, J, w7⟩ := q7; exact next J (hN _ _ w7)
    | brk => obtain ⟨σ7, H7, J, w7⟩ := q7; exact ⟨σ7, H7, J.unpinned, w7⟩
    | ret v => obtain ⟨x7, σ7, H7, J, r7, w7⟩ := q7; exact ⟨x7, σ7, H7, J.unpinned, r7, w7⟩
end
section
variable {K : PySem.W.Frag} {α β M B : Type} {L R R' R2 : List HA} {E : El K α} {F : El K β} {nx bk ct : L2.St → Hp → Prop} {rt : VK} {σ : L2.St} {tas : TA} {a b : Addr} {xs : List α} {ys : List β}
theorem e_forZN0 {g : TG} {tb : TS} (q : Ent L fun H => tas σ H fun us H1 => kForZN K g tb ⟨nx, rt, bk, ct⟩ σ us H1) : Ent L fun H => tForZN K tas g tb ⟨nx, rt, bk, ct⟩ σ H := q
def tuO (c : Option Addr) (us : List V) : HA := match c with
  | none => pu True
  | some T => tu T us
theorem c_forZN {m0 : M} {bd : α × β → M → (M → Prop) → (M → Prop) → Prop} {k : M → Prop} {g : TG} {tb : TS} (hm : forL (List.zip xs ys) m0 bd k) (up : M → B → List (Option (Option V))) (Pm : M → B → List HA) (b0 : B) (h0 : σ = upds σ (up m0 b0)) (s0 : Sub L (Pm m0 b0 ++ R)) (t : Take (ls E a xs) R R') (t2 : Take (ls F b ys) R R2)
    (hs : (∀ m b, k m → Ent (Pm m b ++ R) (nx (upds σ (up m b)))) → ∀ (C : HA) x m b (nxt : M → Prop), bd x m nxt k → ∀ T u w, Ent (vl F w x.2 :: vl E u x.1 :: tu T [u, w] :: (tu T [u, w] :: C :: (Pm m b ++ R))) fun H => g (.ref T) (upds σ (up m b)) H fun σ2 H2 =>
      tb ⟨fun σ' H' => ∃ m b, nxt m ∧ σ' = upds σ (up m b) ∧ Holds (tu T [u, w] :: C :: (Pm m b ++ R)) H', rt, nx, fun σ' H' => ∃ m b, nxt m ∧ σ' = upds σ (up m b) ∧ Holds (tu T [u, w] :: C :: (Pm m b ++ R)) H'⟩ σ2 H2)
    (hd : ∀ m b, k m → Ent (Pm m b ++ R) (nx (upds σ (up m b)))) : Ent L fun H => kForZN K g tb ⟨nx, rt, bk, ct⟩ σ [.ref a, .ref b] H := fun H h => by
  have fr : ∀ m b H', Holds (Pm m b ++ R) H' → Holds R H' := fun m b H' z => by
    obtain ⟨S, z⟩ := z
    obtain ⟨S1, S2, _, z2, _⟩ := HL.app.mp z
    exact ⟨S2, z2⟩
  have hR := fr m0 b0 H (s0.to h)
  obtain ⟨us0, h1, _⟩ := t.ls hR
  obtain ⟨ws0, g1, _⟩ := t2.ls hR
  have hz : Holds (tuO none [] :: (Pm m0 b0 ++ R)) H := Sub.to (L := Pm m0 b0 ++ R) (Sub.pu trivial Sub.refl) (s0.to h)
  refine ⟨a, b, us0, ws0, (List.zip xs ys).length, fun i c σ' H' => ∃ m b' vs, forL ((List.zip xs ys).drop i) m bd k ∧ i ≤ (List.zip xs ys).length ∧ σ' = upds σ (up m b') ∧ Holds (tuO c vs :: (Pm m b' ++ R)) H', rfl, SqL.of h1, SqL.of g1, ⟨m0, b0, [], hm, Nat.zero_le _, h0, hz⟩, fun i c σ' H' ⟨m, b', vs, hf, hi, e, z⟩ => ⟨fun T ec => ?_, ?_⟩⟩
  · subst ec
    exact ⟨vs, z.im_get⟩
  · have zr := Sub.to (Sub.drop Sub.refl) z
    obtain ⟨us, u1, u2⟩ := t.ls (fr m b' H' zr)
    obtain ⟨ws, w1, w2⟩ := t2.ls (fr m b' H' zr)
    have n1 := u2.len
    have n2 := w2.len
    refine ⟨us, ws, SqL.of u1, SqL.of w1, ?_⟩
    by_cases lt : i < (List.zip xs ys).length
    · refine .inr ⟨lt, ?_⟩
      have lt' := lt
      rw [List.length_zip] at lt'
      obtain ⟨u, hu, pu⟩ := u2.getR (List.getElem?_eq_getElem (by omega : i < xs.length))
      obtain ⟨w, hw, pw⟩ := w2.getR (List.getElem?_eq_getElem (by omega : i < ys.length))
      refine ⟨u, w, hu, hw, fun T nT => ?_⟩
      subst e
      have ed : (List.zip xs ys).drop i = (xs[i], ys[i]) :: (List.zip xs ys).drop (i + 1) := by
        rw [List.drop_eq_getElem_cons lt, List.getElem_zip]
      rw [ed, forL_cons] at hf
      have z1 : Holds (tu T [u, w] :: (tuO c vs :: (Pm m b' ++ R))) (L2.upd H' T (.tup [u, w])) := z.newI (o := .tup [u, w]) nT rfl
      have z2 : Holds (tu T [u, w] :: (tu T [u, w] :: tuO c vs :: (Pm m b' ++ R))) (L2.upd H' T (.tup [u, w])) := z1.addI upd_same rfl
      have z3 : Holds (vl F w ys[i] :: vl E u xs[i] :: tu T [u, w] :: (tu T [u, w] :: tuO c vs :: (Pm m b' ++ R))) (L2.upd H' T (.tup [u, w])) := (z2.vl (E := E) (x := xs[i]) (v := u) (E.st pu (keepI_new nT))).vl (F.st pw (keepI_new nT))
      have r := hs hd (tuO c vs) (xs[i], ys[i]) m b' _ hf T u w _ z3
      refine ⟨_, fun σ3 H3 ⟨m3, b3, f3, e3, h3⟩ => ?_, r⟩
      cases c with
      | none => exact ⟨m3, b3, [u, w], f3, lt, e3, Sub.to (Sub.drop Sub.refl) (Sub.to Sub.swap h3)⟩
      | some T0 => exact ⟨m3, b3, vs, f3, lt, e3, Sub.to (Sub.drop Sub.refl) h3⟩
    · refine .inl ⟨by omega, ?_, ?_⟩
      · rw [List.length_zip] at lt
        omega
      · rw [List.drop_eq_nil_of_le (by omega)] at hf
        subst e
        exact hd m b' hf H' zr
end
end Toy
namespace Toy
open PySem L2 PySem.Spec PyProof.Rows
/-! ## X(), X an own exception class without own __init__ -/
section
variable {X : Cx} {C : Addr} {bmB : List Value} {B newId initId : String} {x : Str} {p pos : Pos}
theorem pmk_own0 (F : ExcBaseFacts B newId initId bmB) (q : PySem.W.excIn X.K C bmB newId = true)
    (gC : X.mg x = some (.ref C)) (kC : PySem.W.keepIn X.K (.ref C) = true) (rC : Raises X (.ref C)) (hg : Gl X x)
    (hdb : (x == ("__debug__" : Str)) = false := by decide) : PMk X (.Call (.Name x p) [] [] pos) (fun _ H Q => Q (.ref C) none H) := by
  intro pins s σ H Q I h
  refine wpAny_Call_Name_kw (ld_glob I hg gC ?_ hdb)
  refine PySem.W.callWith_K0 I.kIn kC ?_
  obtain ⟨a1, a2, a3, a4, a5, a6, a7, a8, a9, b1, b2, b3, b4, b5, b6, b7, mN, hC, hN, hni, T⟩ := exc_obj I.kIn q
  exact wpAny_call_exc_subT F T hC hN hni (fun h' e hm => mk_of I hm rC h (I.hok.gone hm.new)) (by rw [sizeLine_eq]; decide)
end
/-! ## xs[a:b] = ys -/
section
variable {X : Cx}
def rSlL : V → V → V → V → Hp → (Hp → Prop) → Prop := fun o i j v H Q => ∃ l b xs ys a c, o = .ref l ∧ v = .ref b ∧ i = .int a ∧ j = .int c ∧ H l = some (.lst xs) ∧ H b = some (.lst ys) ∧ l ≠ b ∧ 0 ≤ a ∧ a ≤ c ∧ c ≤ xs.length ∧
  xs.length + ys.length ≤ sizeLine ∧ Q (L2.upd H l (.lst (xs.take a.toNat ++ ys ++ xs.drop c.toNat)))
def gSl (to tl th : TE) : TG := fun v σ H Q => to σ H fun o H1 => tl σ H1 fun i H2 => th σ H2 fun j H3 => rSlL o i j v H3 fun H4 => Q σ H4
theorem pg_sl {o lo hi : Expr} {to tl th : TE} {pos p2 : Pos} (ho : PE X o to) (hl : PE X lo tl) (hh : PE X hi th)
    (ha : ∀ v, assign (.Subscript o (.Slice (some lo) (some hi) none p2) pos) X.env v = (do
      let ov ← holding [v] (eval o X.env)
      let iv ← holding [v, ov] (eval (.Slice (some lo) (some hi) none p2) X.env)
      standAt pos
      holding [v, ov, iv] (setItem ov iv v)
      release [iv, v, ov] []) := by intro _; rfl) : PG X (.Subscript o (.Slice (some lo) (some hi) none p2) pos) (gSl to tl th) := by
  refine ⟨fun pins s σ H v u Q I r h => ?_⟩
  rw [ha]
  refine wpAny_bind (wpAny_holding (thn (ho.run pins s σ H _ I h) fun ov s1 ⟨x, H1, I1, r1, q1⟩ => ?_))
  refine wpAny_bind (wpAny_holding (wpAny_Slice ?_))
  rw [evalPart_some, evalPart_some]
  refine thn (hl.run pins s1 σ H1 _ I1 q1) fun vl s2 ⟨y, H2, I2, r2, q2⟩ => thn (hh.run pins s2 σ H2 _ I2 q2) fun vu s3 ⟨z, H3, I3, r3, q3⟩ => ?_
  rw [evalPart_none]
  refine wpAny_pure ?_
  have J : Inv X pins σ H3 { s3 with heap := s3.heap.push { cls := .type "slice", data := .fields #[vl, vu, .none] } } := I3.kept (t' := s3.toks) fun b ob q => Heap.get?_push_of_some _ q
  obtain ⟨l, b, xs, ys, a, c, rfl, rfl, rfl, rfl, e1, e2, hne, h0, hac, hc, hz, q⟩ := q3
  cases r1
  cases r
  refine wpAny_bind (wpAny_standAt (wpAny_bind (wpAny_holding (set_slice J e1 e2 hne (Heap.IsSliceOf.new ..) r2 r3 h0 hac hc hz fun s' I5 => ?_))))
  exact wpAny_release ⟨σ, _, I5, q⟩
end
section
variable {K : PySem.W.Frag} {L R R' : List HA} {α : Type} {E : El K α} {l b : Addr} {xs ys : List α} {φ : Hp → Prop} {σ : L2.St}
theorem e_gsl {to tl th : TE} {v : V} {Q : L2.St → Hp → Prop} (q : Ent L fun H => to σ H fun o H1 => tl σ H1 fun i H2 => th σ H2 fun j H3 => rSlL o i j v H3 fun H4 => Q σ H4) : Ent L fun H => gSl to tl th v σ H Q := q
theorem c_sl2 {i j : Int} {k : Prop} (hm : grd (0 ≤ i ∧ i ≤ j ∧ j ≤ xs.length ∧ xs.length + ys.length ≤ 200000) k) (t : Take (ls E l xs) L R) (g : Take (ls E b ys) R R') (q : k → Ent (ls E l (xs.take i.toNat ++ ys ++ xs.drop j.toNat) :: R') φ) : Ent L fun H => rSlL (.ref l) (.int i) (.int j) (.ref b) H φ := fun H h => by
  have h1 := (Sub.take t g).to h
  obtain ⟨vs, e1, a1⟩ := t.ls h
  obtain ⟨us, e2, a2⟩ := g.ls (Sub.to (Sub.drop Sub.refl) (t.to h))
  have hne : l ≠ b := by
    obtain ⟨S, S1, S2, ⟨_, s1⟩, ⟨S3, S4, ⟨_, s3⟩, _, _, hs3⟩, hd, hs⟩ := h1
    rintro rfl
    exact hd l ((s1 l).mpr rfl) ((hs3 l).mpr (.inl ((s3 l).mpr rfl)))
  obtain ⟨⟨c0, c1, c2, c3⟩, hk⟩ := hm
  refine ⟨l, b, vs, us, i, j, rfl, rfl, rfl, rfl, e1, e2, hne, c0, c1, by rw [a1.len]; exact c2, by rw [a1.len, a2.len, sizeLine_eq]; omega, q hk _ ?_⟩
  exact Sub.to (Sub.cons (Sub.drop Sub.refl)) (h1.ls_upd (((a1.take _).app a2).app (a1.drop _)))
end
/-! ## sorted(a list of triples of numbers) -/
section
variable {X : Cx}
def rSort3 (K : PySem.W.Frag) : List V → Hp → VK → Prop := fun vs H Q => ∃ (a : Addr) (xs : List V) (k : V → List Int), vs = [.ref a] ∧ SqL K H a xs ∧ xs.length < 64 ∧
  (∀ x ∈ xs, ∃ t, x = .ref t ∧ H t = some (.tup ((k x).map V.int)) ∧ (k x).length = 3 ∧ ∀ n ∈ k x, 0 ≤ n ∧ n < 100000) ∧
  ∀ ys p, ys.Perm xs → ys.Pairwise (fun u v => (k u).headD 0 ≤ (k v).headD 0) → H p = none → Q (.ref p) (L2.upd H p (.lst ys))
theorem code_first {a b : List Int} (la : a.length = 3) (lb : b.length = 3) (ha : TS.Bd 100000 a) (hb : TS.Bd 100000 b) (h : TS.code 100000 a ≤ TS.code 100000 b) : a.headD 0 ≤ b.headD 0 := by
  cases a with
  | nil => cases la
  | cons d r =>
    cases b with
    | nil => cases lb
    | cons e q =>
      show d ≤ e
      by_cases c : e < d
      · have := TS.code_lt (B := 100000) (r := q) (q := r) (d := e) (e := d) (by simp at la lb; omega) hb.tail ha.tail c
        omega
      · omega
theorem cr_sort3 {K : PySem.W.Frag} (hK : X.K = K := by rfl) : CallR X (.builtin "sorted") (rSort3 K) := by
  subst hK
  intro pins s σ H vs us Q I r h
  obtain ⟨a, xs, k, rfl, hs, h64, hx, q⟩ := h
  obtain ⟨its, rv, hl, hz⟩ := I.list hs
  rw [Vals.ref1 r]
  obtain ⟨e1, e2⟩ := refs_back rv fun x m => by
    obtain ⟨t, e, _⟩ := hx x m
    exact ⟨t, e⟩
  have one : ∀ v ∈ its, TS.TupInts s.heap v (k (backV v)) ∧ (k (backV v)).length = 3 ∧ TS.Bd 100000 (k (backV v)) := fun v hv => by
    obtain ⟨t, rfl⟩ := e2 v hv
    have hm : V.ref t ∈ xs := by rw [e1]; exact List.mem_map.mpr ⟨_, hv, rfl⟩
    obtain ⟨t', e, ht, hl3, hb⟩ := hx _ hm
    cases e
    obtain ⟨ws, r2, ht2, _⟩ := I.tuple (SqT.of ht)
    exact ⟨⟨t, ws.toArray, rfl, ht2, (by simpa using r2.ints : IntsAre ws.toArray.toList (k (V.ref t)))⟩, hl3, fun m hm => hb m hm⟩
  refine TS.sorted_tups (d := 3) (B := 100000) hl.isList (by rw [← rv.length]; exact h64) (by omega) (fun v hv => ⟨_, (one v hv).1, (one v hv).2.1, (one v hv).2.2⟩) fun out pm pw => ?_
  have h3 : ∀ u ∈ out.toList, ∃ a, u = Value.ref a := fun u hu => e2 u (pm.mem_iff.mp hu)
  obtain ⟨n, hn⟩ := PyProof.Rows.sortedAll_at s.heap its out
  refine ⟨.ref (s.heap.objs.size + 1), L2.upd H (s.heap.objs.size + 1) (.lst (out.toList.map backV)), I.laid (t' := s.toks) (fun b o e => PyProof.Rows.sortedAll_old e) (Nat.le_succ _) ⟨?_, out.toList, n, vals_back h3, hn⟩, rfl, q _ _ ?_ ?_ (I.hok.fresh (Nat.le_succ _))⟩
  · rw [List.length_map, pm.length_eq, ← rv.length]; exact hz
  · rw [e1]; exact pm.map backV
  · rw [List.pairwise_map]
    refine pw.imp_of_mem fun {u v} hu hv hc => ?_
    obtain ⟨t1, l1, b1⟩ := one u (pm.mem_iff.mp hu)
    obtain ⟨t2, l2, b2⟩ := one v (pm.mem_iff.mp hv)
    rw [t1.ints, t2.ints] at hc
    exact code_first l1 l2 b1 b2 hc
end
/-! ## len(set(a tuple of numbers)), all unlike -/
section
variable {X : Cx}
def tLenSetT (K : PySem.W.Frag) (ta : TE) : TE := fun σ H Q => ta σ H fun x H1 => ∃ (l : Addr) (ns : List Int), x = .ref l ∧ SqT K H1 l (ns.map V.int) ∧ ns.Nodup ∧ ns.length ≤ 4000 ∧ Q (.int (ns.length : Nat)) H1
theorem pe_lenSetT {a : Expr} {ta : TE} {p p2 q pos : Pos} (hg : Gl X "len") (hm : X.mg "len" = none) (hg2 : Gl X "set") (hm2 : X.mg "set" = none) (ha : PE X a ta) (hc : X.calm = true := by rfl)
    (na : starEach [a] X.env = (false, eval a X.env) :: starEach [] X.env := by rfl) : PE X (.Call (.Name "len" p) [.Call (.Name "set" p2) [a] [] q] [] pos) (tLenSetT X.K ta) := by
  refine ⟨fun pins s σ H Q I h => ?_⟩
  refine Call_ (ld_blt I hg hm boot_len ?_)
  refine callWith_builtin1 (args_cons ?_ rfl) rfl rfl
  refine Call_ (ld_blt I hg2 hm2 boot_set ?_)
  refine callWith_type1 (args_cons (thn (ha.run pins s σ H _ I h) fun v s1 ⟨x, H1, I1, r1, q1⟩ => args_nil ?_) na) na rfl
  obtain ⟨l, ns, rfl, hq, nd, few, q1⟩ := q1
  cases r1
  obtain ⟨its, r, pl, _⟩ := I1.tuple hq
  refine call_set_tupI ns (I1.ok.hd hc) pl (by simpa using r.ints) (by unfold scanBound; omega) fun h' tk c R _ hk => ?_
  refine args_nil ?_
  obtain ⟨o, es, ep, t, ho, hex, hd, _, nd2, mem, _, hf, hn, _⟩ := R
  have hsz : c = ns.length := by
    have pm : (es.toList.map keyOf).Perm ns := (List.perm_ext_iff_of_nodup nd2 nd).mpr fun k => by
      rw [← mem k]; simp
    have := pm.length_eq
    rw [List.length_map, Array.length_toList, hn] at this
    exact this
  have J : Inv X pins σ H1 { s1 with heap := h', toks := tk } := I1.kept hk
  exact call_len_set ho hex hd hf (by rw [hn, hsz]; omega) ⟨.int ns.length, H1, J.tok _, ⟨_, by rw [hn, hsz]⟩, q1⟩
end
section
variable {K : PySem.W.Frag} {L R : List HA} {Q : VK} {σ : L2.St} {H : Hp} {ta : TE} {p : Addr} {v : V}
def kLsi (K : PySem.W.Frag) (Q : VK) (x : V) (H1 : Hp) : Prop := ∃ (l : Addr) (ns : List Int), x = .ref l ∧ SqL K H1 l (ns.map V.int) ∧ ns.Nodup ∧ ns.length ≤ 4000 ∧ Q (.int (ns.length : Nat)) H1
def kLst (K : PySem.W.Frag) (Q : VK) (x : V) (H1 : Hp) : Prop := ∃ (l : Addr) (ns : List Int), x = .ref l ∧ SqT K H1 l (ns.map V.int) ∧ ns.Nodup ∧ ns.length ≤ 4000 ∧ Q (.int (ns.length : Nat)) H1
theorem e_lsi0 (q : Ent L fun H => ta σ H fun x H1 => kLsi K Q x H1) : Ent L fun H => RZ.tLenSetI K ta σ H Q := q
theorem e_lst0 (q : Ent L fun H => ta σ H fun x H1 => kLst K Q x H1) : Ent L fun H => tLenSetT K ta σ H Q := q
theorem ints_of {H : Hp} : ∀ {vs : List V} {ns : List Int}, All2 ((kI (K := K)).P H) vs ns → vs = ns.map V.int
  | _, _, .nil => rfl
  | _, _, .cons (y := n) h t => by rw [List.map_cons, ← ints_of t]; congr 1
theorem c_lsi {ns : List Int} {k : Prop} (hm : grd (ns.Nodup ∧ ns.length ≤ 4000) k) (t : Take (ls (kI (K := K)) p ns) L R) (q : k → Ent L (Q (.int (ns.length : Nat)))) : Ent L fun H => kLsi K Q (.ref p) H := fun H h => by
  obtain ⟨vs, h1, h2⟩ := t.ls h
  obtain rfl := ints_of h2
  exact ⟨p, ns, rfl, SqL.of h1, hm.1.1, hm.1.2, q hm.2 H h⟩
theorem c_lst {ns : List Int} {k : Prop} (hm : grd (ns.Nodup ∧ ns.length ≤ 4000) k) (t : Is (kT (kI (K := K))) L v ns) (q : k → Ent L (Q (.int (ns.length : Nat)))) : Ent L fun H => kLst K Q v H := fun H h => by
  obtain ⟨a, vs, rfl, h1, h2⟩ := t H h
  obtain rfl := ints_of h2
  exact ⟨a, ns, rfl, h1, hm.1.1, hm.1.2, q hm.2 H h⟩
theorem c_indexI {xs : List Int} {x : Int} {k : Nat → Prop} (hm : obx (ixof xs x) k) (t : Take (ls (kI (K := K)) l xs) L R) (q : ∀ j : Nat, k j → Ent L (Q (.int j))) : Ent L fun H => rIndex K (.ref l) [.int x] H Q := fun H h => by
  obtain ⟨j, e, hk⟩ := hm
  obtain ⟨vs, h1, h2⟩ := t.ls h
  obtain rfl := ints_of h2
  obtain ⟨hj, hp, hn⟩ := List.findIdx?_eq_some_iff_getElem.mp e
  refine ⟨l, xs.map V.int, .int x, j, .int x, rfl, rfl, SqL.of h1, rfl, ?_, ?_, ?_, ?_, q j hk H h⟩
  · simp [List.all_map, Function.comp_def, flatV]
  · rw [List.getElem?_map, List.getElem?_eq_getElem hj]
    simp only [decide_eq_true_eq] at hp
    rw [hp]; rfl
  · simp [eqV]
  · intro m z' hmj hz
    rw [List.getElem?_map, List.getElem?_eq_getElem (by omega)] at hz
    have := hn m hmj
    simp only [decide_eq_true_eq] at this
    obtain rfl := (Option.some.inj hz).symm
    simp [eqV, this]
/-- sorted, by the first number -/
def srt3 (xs : List (Int × Int × Int)) (k : List (Int × Int × Int) → Prop) : Prop := (xs.length < 64 ∧ ∀ x ∈ xs, (0 ≤ x.1 ∧ x.1 < 100000) ∧ (0 ≤ x.2.1 ∧ x.2.1 < 100000) ∧ (0 ≤ x.2.2 ∧ x.2.2 < 100000)) ∧ ∀ ys, ys.Perm xs → ys.Pairwise (fun a b => a.1 ≤ b.1) → k ys
abbrev k3 : El K (Int × Int × Int) := kTup (kC kI (kC kI (kC1 kI)))
def intsV (H : Hp) (v : V) : List Int := match v with
  | .ref t => match H t with
    | some (.tup us) => us.map fun u => match u with
      | .int n => n
      | _ => 0
    | _ => []
  | _ => []
def tri (H : Hp) (v : V) : Int × Int × Int := ((intsV H v).getD 0 0, (intsV H v).getD 1 0, (intsV H v).getD 2 0)
theorem k3_at {H : Hp} {v : V} {x : Int × Int × Int} (h : (k3 (K := K)).P H v x) : ∃ t, v = .ref t ∧ H t = some (.tup [.int x.1, .int x.2.1, .int x.2.2]) := by
  obtain ⟨t, us, e, ht, u0, us1, e1, h0, u1, us2, e2, h1, u2, e3, h2⟩ := h
  subst e1 e2 e3
  cases h0; cases h1; cases h2
  exact ⟨t, e, ht⟩
theorem is_k3T {v : V} {x : Int × Int × Int} (t : Take (vl (k3 (K := K)) v x) L R) : Is (kT (kI (K := K))) L v [x.1, x.2.1, x.2.2] := fun H h => by
  obtain ⟨a, rfl, e⟩ := k3_at (t.vl h)
  exact ⟨a, [.int x.1, .int x.2.1, .int x.2.2], rfl, SqT.of e, .cons rfl (.cons rfl (.cons rfl .nil))⟩
theorem k3_of {H : Hp} {v : V} {x : Int × Int × Int} (h : (k3 (K := K)).P H v x) : intsV H v = [x.1, x.2.1, x.2.2] ∧ tri H v = x := by
  obtain ⟨t, e, ht⟩ := k3_at h
  subst e
  have e1 : intsV H (.ref t) = [x.1, x.2.1, x.2.2] := by
    unfold intsV
    dsimp only
    rw [ht]; rfl
  exact ⟨e1, by unfold tri; rw [e1]; rfl⟩
theorem tri_map {H : Hp} : ∀ {vs : List V} {xs : List (Int × Int × Int)}, All2 ((k3 (K := K)).P H) vs xs → xs = vs.map (tri H)
  | _, _, .nil => rfl
  | _, _, .cons h t => by rw [List.map_cons, ← tri_map t, (k3_of h).2]
theorem all2_mem {α β : Type} {r : α → β → Prop} : ∀ {xs : List α} {ys : List β}, All2 r xs ys → ∀ x ∈ xs, ∃ y ∈ ys, r x y
  | _, _, .nil, x, h => by cases h
  | _, _, .cons h t, x, hx => by
    rcases List.mem_cons.mp hx with e | e
    · subst e; exact ⟨_, List.mem_cons_self .., h⟩
    · obtain ⟨y, hy, hr⟩ := all2_mem t x e
      exact ⟨y, List.mem_cons_of_mem _ hy, hr⟩
theorem c_srt3 {xs : List (Int × Int × Int)} {k : List (Int × Int × Int) → Prop} (hm : srt3 xs k) (t : Take (ls (k3 (K := K)) p xs) L R) (q : ∀ ys, k ys → ∀ p', Ent (ls (k3 (K := K)) p' ys :: L) (Q (.ref p'))) : Ent L fun H => rSort3 K [.ref p] H Q := fun H h => by
  obtain ⟨⟨h64, hb⟩, hk⟩ := hm
  obtain ⟨vs, h1, h2⟩ := t.ls h
  have hmap := tri_map h2
  refine ⟨p, vs, intsV H, rfl, SqL.of h1, by rw [h2.len]; exact h64, fun v hv => ?_, fun ys p' pm pw np => ?_⟩
  · obtain ⟨x, hx, hr⟩ := all2_mem h2 v hv
    obtain ⟨t', e, ht⟩ := k3_at hr
    rw [(k3_of hr).1]
    refine ⟨t', e, ht, rfl, fun n hn => ?_⟩
    obtain ⟨b1, b2, b3⟩ := hb x hx
    simp only [List.mem_cons, List.not_mem_nil, or_false] at hn
    rcases hn with rfl | rfl | rfl
    · exact b1
    · exact b2
    · exact b3
  · refine q (ys.map (tri H)) (hk _ (by rw [hmap]; exact pm.map _) ?_) p' _ (h.ls_new np ?_)
    · rw [List.pairwise_map]
      refine pw.imp_of_mem fun {u v} hu hv hc => ?_
      obtain ⟨x, _, hr⟩ := all2_mem h2 u (pm.mem_iff.mp hu)
      obtain ⟨y, _, hr2⟩ := all2_mem h2 v (pm.mem_iff.mp hv)
      rw [(k3_of hr).1, (k3_of hr2).1] at hc
      rw [(k3_of hr).2, (k3_of hr2).2]
      exact hc
    · have all : ∀ l : List V, (∀ v ∈ l, v ∈ vs) → All2 ((k3 (K := K)).P H) l (l.map (tri H)) := fun l => by
        intro hl
        induction l with
        | nil => exact .nil
        | cons v l ih =>
          refine .cons ?_ (ih fun w hw => hl w (List.mem_cons_of_mem _ hw))
          obtain ⟨x, _, hr⟩ := all2_mem h2 v (hl v (List.mem_cons_self ..))
          rw [(k3_of hr).2]
          exact hr
      exact all ys fun v hv => pm.mem_iff.mp hv
end
/-! ## for x, y in zip(a list, a tuple) -/
section
def ItzM (K : PySem.W.Frag) (a b : Addr) : It :=
  ⟨fun i H => ∃ (xs ys : List V) (x y : V), SqL K H a xs ∧ SqT K H b ys ∧ xs[i]? = some x ∧ ys[i]? = some y,
    fun i H v H' => ∃ T x y, v = .ref T ∧ H T = none ∧ H' = L2.upd H T (.tup [x, y]) ∧ (∀ xs, SqL K H a xs → xs[i]? = some x) ∧ ∀ ys, SqT K H b ys → ys[i]? = some y,
    fun i H => ∃ xs ys : List V, SqL K H a xs ∧ SqT K H b ys ∧ i ≤ xs.length ∧ i ≤ ys.length ∧ (i = xs.length ∨ i = ys.length)⟩
def ZM (z TI TO i1 i2 a b : Addr) (i : Nat) (h : Heap) : Prop := IsZip h z TI TO .none ∧ IsPair h TI (.ref i1) (.ref i2) ∧ (∃ x y, IsPair h TO x y) ∧ h.IsListIter i1 a i ∧ h.IsTupleIter i2 b i
theorem sep2_of {z TI TO i1 i2 a b : Addr} (D : ZipApart z TI TO i1 i2 a b) (h12 : a ≠ i2) (h21 : b ≠ i1) : ZipSep2 z TI TO i1 i2 [i1, a] [i2, b] :=
  { TIz := D.TIz, TOz := D.TOz, TITO := D.TITO, TIi1 := D.TIi1, TIi2 := D.TIi2, mem1 := by simp, mem2 := by simp,
    zf1 := by simp [D.i1z.symm, D.l1z.symm], zf2 := by simp [D.i2z.symm, D.l2z.symm], Tf1 := by simp [D.TOi1, D.l1TO.symm], Tf2 := by simp [D.TOi2, D.l2TO.symm],
    sep1_2 := by simp [D.i12, h21.symm], sep2_1 := by simp [D.i12.symm, h12.symm] }
theorem turn_zipM {P : Program} {w : World} {K : PySem.W.Frag} {elts : List Expr} {kk : Nat} {tpos : Pos} {a b z TI TO i1 i2 : Addr} (D : ZipApart z TI TO i1 i2 a b) :
    Turn P w K (.Tuple elts kk tpos) (ItzM K a b) [z, TI, TO, i1, i2] z (fun i h => ZM z TI TO i1 i2 a b i h) where
  mem := List.mem_cons_self ..
  obj := fun i h st e he => by
    obtain ⟨q0, q1, ⟨x, y, q2⟩, ⟨o1, e1, _, d1⟩, ⟨o2, e2, _, d2⟩⟩ := st
    simp only [List.mem_cons, List.not_mem_nil, or_false] at he
    rcases he with e0 | e0 | e0 | e0 | e0 <;> rw [e0]
    · exact ⟨_, q0, fun v w => nomatch w⟩
    · exact ⟨_, q1, fun v w => nomatch w⟩
    · exact ⟨_, q2, fun v w => nomatch w⟩
    · exact ⟨o1, e1, fun v w => by rw [d1] at w; cases w⟩
    · exact ⟨o2, e2, fun v w => by rw [d2] at w; cases w⟩
  keep := fun i h h' st k => by
    obtain ⟨q0, q1, ⟨x, y, q2⟩, q3, q4⟩ := st
    exact ⟨k z (by simp) _ q0, k TI (by simp) _ q1, ⟨x, y, k TO (by simp) _ q2⟩, q3.at (k i1 (by simp)), q4.at (k i2 (by simp))⟩
  item := by
    intro X hP hw hK hc i pins s σ H E I hf st hg
    subst hP hw hK
    have live : ∀ e ∈ [z, TI, TO, i1, i2], e < s.heap.objs.size := fun e he => by
      obtain ⟨q0, q1, ⟨x, y, q2⟩, ⟨o1, e1, _⟩, ⟨o2, e2, _⟩⟩ := st
      simp only [List.mem_cons, List.not_mem_nil, or_false] at he
      rcases he with e0 | e0 | e0 | e0 | e0 <;> rw [e0]
      · exact Heap.lt_size q0
      · exact Heap.lt_size q1
      · exact Heap.lt_size q2
      · exact Heap.lt_size e1
      · exact Heap.lt_size e2
    obtain ⟨q0, q1, ⟨x0, y0, q2⟩, q3, q4⟩ := st
    obtain ⟨xs, ys, x, y, hqx, hqy, hx, hy⟩ := hg
    obtain ⟨us, ru, pu, _⟩ := I.list hqx
    obtain ⟨ws, rw', pw, _⟩ := I.tuple hqy
    obtain ⟨u, hu, r1⟩ := ru.get hx
    obtain ⟨v, hv, r2⟩ := rw'.get hy
    have hd : X.A.in1.handled = none := I.ok.hd hc
    have gu : us.toArray[i]? = some u := by simpa using hu
    have gv : ws.toArray[i]? = some v := by simpa using hv
    refine wpAny_pyNext_zipD2_item (sep2_of D D.l1i2 D.l2i1) (Draws.list (A := X.A.in1) hd i1 a D.l1i1 us.toArray) (Draws.tuple (A := X.A.in1) hd i2 b D.l2i2 ws.toArray) q0 q1 q2 ⟨q3, pu.isList⟩ ⟨q4, pw⟩
      (Array.getElem?_eq_some_iff.mp gu).1 (Array.getElem?_eq_some_iff.mp gv).1 fun u' v' h' tk g1 g2 z' TO' s1 s2 hT hsz hk => ?_
    obtain rfl : u' = u := Option.some.inj (g1.symm.trans gu)
    obtain rfl : v' = v := Option.some.inj (g2.symm.trans gv)
    have hzl := live z (by simp)
    refine ⟨_, rfl, wpAny_letOwnedTupleGo_zip (s := { s with heap := h', toks := tk }) z' fun h'' z'' sb => ?_⟩
    have old : ∀ e o, e ∉ [z, TI, TO, i1, i2] → s.heap.get? e = some o → h''.get? e = some o := fun e o he q =>
      (sb.2 e (fun w => he (by simp [w]))).trans (hk e o (fun w => he (by simp [w])) (fun w => he (by simp [w])) (fun w => he (by simp [w])) (fun w => he (by simp [w])) q)
    have hT2 : IsPair h'' s.heap.objs.size u' v' := (sb.2 _ (Nat.ne_of_gt hzl)).trans hT
    have J : Inv X pins σ (L2.upd H s.heap.objs.size (.tup [x, y])) { s with heap := h'', toks := tk } :=
      I.turnedNew (t' := tk) (ch := [z, TI, TO, i1, i2]) (fun e o he => old e o he) hf (Nat.le_refl _) ⟨by show 2 ≤ sizeLine; decide, [u', v'], .cons r1 (.cons r2 .nil), ⟨_, hT2, rfl, _, rfl⟩⟩
    refine ⟨.ref s.heap.objs.size, _, J, rfl, ⟨_, x, y, rfl, I.hok.fresh (Nat.le_refl _), rfl, fun l hl => by rw [I.list_inj hl hqx]; exact hx, fun l hl => by rw [I.tuple_inj hl hqy]; exact hy⟩, ⟨z'', ?_, ⟨u', v', ?_⟩, ?_, ?_⟩, fun e he => ?_⟩
    · exact (sb.2 _ D.TIz).trans (hk _ _ D.TIz D.TITO D.TIi1 D.TIi2 q1)
    · exact (sb.2 _ D.TOz).trans TO'
    · exact s1.1.at fun o q => (sb.2 _ D.i1z).trans q
    · exact s2.1.at fun o q => (sb.2 _ D.i2z).trans q
    · rw [upd_ne (Nat.ne_of_lt (live e he))]
      exact (hf e he).1
  done := by
    intro X hP hw hK hc i pins s σ H E I hf st hg
    subst hP hw hK
    obtain ⟨q0, q1, ⟨x0, y0, q2⟩, q3, q4⟩ := st
    obtain ⟨xs, ys, hqx, hqy, l1, l2, fin⟩ := hg
    obtain ⟨us, ru, pu, _⟩ := I.list hqx
    obtain ⟨ws, rw', pw, _⟩ := I.tuple hqy
    have n1 : us.toArray.size = xs.length := by rw [List.size_toArray, ru.length]
    have n2 : ws.toArray.size = ys.length := by rw [List.size_toArray, rw'.length]
    have hd : X.A.in1.handled = none := I.ok.hd hc
    refine wpAny_pyNext_zipD2_end (sep2_of D D.l1i2 D.l2i1) (Draws.list (A := X.A.in1) hd i1 a D.l1i1 us.toArray) (Draws.tuple (A := X.A.in1) hd i2 b D.l2i2 ws.toArray) q0 q1 q2 ⟨q3, pu.isList⟩ ⟨q4, pw⟩ (by omega) (by omega) (by omega) fun h' tk k => ⟨rfl, ?_⟩
    exact I.turnedL (t' := tk) (ch := [z, TI, TO, i1, i2]) (fun e o he => k e o (fun w => he (by simp [w])) (fun w => he (by simp [w])) (fun w => he (by simp [w])) (fun w => he (by simp [w]))) hf
  self := fun A i s Q E st h => wpAny_pyIter_zip st.1 h
abbrev zM1 (h : Heap) (l1 : Addr) : Heap := h.push { cls := .type "list_iterator", data := .fields #[.ref l1, .int 0 0] }
abbrev zM2 (h : Heap) (l1 l2 : Addr) : Heap := (zM1 h l1).push { cls := .type "tuple_iterator", data := .fields #[.ref l2, .int 0 0] }
abbrev zM3 (h : Heap) (l1 l2 : Addr) : Heap := (zM2 h l1 l2).push { cls := .type "tuple", data := .seq #[.ref h.objs.size, .ref (zM1 h l1).objs.size] }
abbrev zM4 (h : Heap) (l1 l2 : Addr) : Heap := (zM3 h l1 l2).push { cls := .type "tuple", data := .seq #[.none, .none] }
abbrev zM5 (h : Heap) (l1 l2 : Addr) : Heap := (zM4 h l1 l2).push { cls := .type "zip", data := .fields #[.none, .bool false, .bool false, .ref (zM2 h l1 l2).objs.size, .ref (zM3 h l1 l2).objs.size] }
theorem meets_zipM (l1 l2 : Addr) (xs ys : Array Value) :
    Meets (Builtin.«zip.__new__» ⟨[.type "zip", .ref l1, .ref l2], []⟩) (fun _ R s => s.heap.IsList l1 xs ∧ s.heap.IsTuple l2 ys ∧
      R (.ok (.ret (.ref (zM4 s.heap l1 l2).objs.size))) { s with heap := zM5 s.heap l1 l2 }) :=
  .of_wp fun prog w A R s ⟨a1, a2, fin⟩ => by
    obtain ⟨hp, g, d, tk, os⟩ := s
    have sub := sub_zip
    have b1 : Heap.IsList (Shared.heap ⟨hp, g, d, tk, os⟩) l1 xs := a1
    have b2 : Heap.IsTuple (Shared.heap ⟨hp.push { cls := .type "list_iterator", data := .fields #[.ref l1, .int 0 0] }, g, d, tk, os⟩) l2 ys := Heap.IsTuple.push a2 _
    wp_walk using wpAny_pyIter_list b1, wpAny_pyIter_tuple b2
    exact ⟨_, rfl, fin⟩
theorem call_zipM {prog : Program} {w : World} {A : Around} {E : Value → Shared → Prop} {s : Shared} {l1 l2 : Addr} {xs ys : Array Value} {Q : Value → Shared → Prop} (a1 : s.heap.IsList l1 xs) (a2 : s.heap.IsTuple l2 ys)
    (h : ∀ h', ZM (s.heap.objs.size + 4) (s.heap.objs.size + 2) (s.heap.objs.size + 3) s.heap.objs.size (s.heap.objs.size + 1) l1 l2 0 h' → (∀ c o, s.heap.get? c = some o → h'.get? c = some o) → Q (.ref (s.heap.objs.size + 4)) { s with heap := h' }) :
    wpAny (model prog w) A (call (.type "zip") [.ref l1, .ref l2]) Q E s := by
  refine callType_new F.called_zip (by decide) (F.typeCall_zip_2 _ _) (F.newCall_zip_2 _ _) (fun obj => F.args_object_init_3 obj _ _) F.entry_zip_new (meets_zipM l1 l2 xs ys) ⟨a1, a2, ?_⟩
  have z1 : (zM1 s.heap l1).objs.size = s.heap.objs.size + 1 := Heap.size_push ..
  have z2 : (zM2 s.heap l1 l2).objs.size = s.heap.objs.size + 2 := by rw [Heap.size_push, z1]
  have z3 : (zM3 s.heap l1 l2).objs.size = s.heap.objs.size + 3 := by rw [Heap.size_push, z2]
  have z4 : (zM4 s.heap l1 l2).objs.size = s.heap.objs.size + 4 := by rw [Heap.size_push, z3]
  have up : ∀ {h : Heap} {o : Obj} {c : Addr} {q : Obj}, h.get? c = some q → (h.push o).get? c = some q := fun e => Heap.get?_push_of_some _ e
  have g5 : (zM5 s.heap l1 l2).get? (zM4 s.heap l1 l2).objs.size = some _ := Heap.get?_push_size _ rfl
  have g4 : (zM5 s.heap l1 l2).get? (zM3 s.heap l1 l2).objs.size = some _ := up (Heap.get?_push_size _ rfl)
  have g3 : (zM5 s.heap l1 l2).get? (zM2 s.heap l1 l2).objs.size = some _ := up (up (Heap.get?_push_size _ rfl))
  have g2 : (zM5 s.heap l1 l2).get? (zM1 s.heap l1).objs.size = some _ := up (up (up (Heap.get?_push_size _ rfl)))
  have g1 : (zM5 s.heap l1 l2).get? s.heap.objs.size = some _ := up (up (up (up (Heap.get?_push_size _ rfl))))
  show _ ∧ _
  rw [z2, z3, z4] at g5
  rw [z1, z2] at g3
  rw [z3] at g4
  rw [z1] at g2
  rw [z4]
  exact ⟨⟨_, g5, rfl⟩, h _ ⟨g5, g3, ⟨_, _, g4⟩, ⟨_, g1, rfl, rfl⟩, ⟨_, g2, rfl, rfl⟩⟩ fun c o x => up (up (up (up (up x))))⟩
def iZipM (K : PySem.W.Frag) (ta : TA) : TI := fun σ H R => ta σ H fun vs H1 => ∃ a b xs ys, vs = [.ref a, .ref b] ∧ SqL K H1 a xs ∧ SqT K H1 b ys ∧ R (ItzM K a b) H1
theorem pi_zipM {X : Cx} {e e2 : Expr} {ta : TA} {p pos tpos : Pos} {elts : List Expr} {kk : Nat} (hg : Gl X "zip") (hm : X.mg "zip" = none) (ha : PA X [e, e2] ta)
    (hs : starEach [e, e2] X.env = (false, eval e X.env) :: starEach [e2] X.env := by rfl) (hpl : (backTo pos (starEach [e2] X.env)).any (·.1) = false := by rfl) :
    PI X (.Tuple elts kk tpos) (.Call (.Name "zip" p) [e, e2] [] pos) (iZipM X.K ta) := by
  refine ⟨fun pins s σ H R I h => ?_⟩
  refine Call_ (ld_blt I hg hm boot_zip (callWith_type1 (thn (ha.run pos pins s σ H _ I h) fun us s1 ⟨vs, H1, I1, r1, q1⟩ => ?_) hs hpl))
  obtain ⟨a, b, xs, ys, ex, hqx, hqy, q⟩ := q1
  subst ex
  obtain ⟨va, vb, rfl⟩ : ∃ va vb, us = [va, vb] := by
    cases r1 with
    | cons r rr => cases rr with
      | cons r' rr => cases rr; exact ⟨_, _, rfl⟩
  obtain rfl : va = Value.ref a := by cases r1 with | cons r rr => exact r
  obtain rfl : vb = Value.ref b := by cases r1 with | cons r rr => cases rr with | cons r' _ => exact r'
  obtain ⟨its, rv, p1, _⟩ := I1.list hqx
  obtain ⟨its2, rv2, p2, _⟩ := I1.tuple hqy
  obtain ⟨o2, ho2, _⟩ := id p2
  refine call_zipM p1.isList p2 fun h' st hk => wpAny_pyIter_zip st.1 ?_
  have J : Inv X pins σ H1 { s1 with heap := h' } := I1.kept (t' := s1.toks) hk
  refine ⟨s1.heap.objs.size + 4, [s1.heap.objs.size + 4, s1.heap.objs.size + 2, s1.heap.objs.size + 3, s1.heap.objs.size, s1.heap.objs.size + 1], _, _, H1, rfl, J, turn_zipM (PySem.W.ktu_apart s1.heap.objs.size a b p1.lt (Heap.lt_size ho2)), st, fun c hc => ?_, q⟩
  have big : s1.heap.objs.size ≤ c := by
    simp only [List.mem_cons, List.not_mem_nil, or_false] at hc
    rcases hc with z | z | z | z | z <;> rw [z] <;> first | exact Nat.le_add_right _ _ | exact Nat.le_refl _
  exact I1.fpOk big (I1.hok.fresh big)
end
section
variable {K : PySem.W.Frag} {α β M B : Type} {L R R' R2 : List HA} {E : El K α} {F : El K β} {u : V} {nx bk ct : L2.St → Hp → Prop} {rt : VK} {σ : L2.St} {tas : TA}
def kZipM (K : PySem.W.Frag) (R : It → Hp → Prop) (vs : List V) (H1 : Hp) : Prop := ∃ a b xs ys, vs = [.ref a, .ref b] ∧ SqL K H1 a xs ∧ SqT K H1 b ys ∧ R (ItzM K a b) H1
theorem e_forZM {g : TG} {tb : TS} (q : Ent L fun H => tas σ H fun us H1 => kZipM K (kLoop g tb ⟨nx, rt, bk, ct⟩ σ) us H1) : Ent L fun H => tFor (iZipM K tas) g tb ⟨nx, rt, bk, ct⟩ σ H := q
theorem walk_zipM (xs : List α) (ys : List β) (a b : Addr) : Walk (ItzM K a b) (List.zip xs ys).length (fun H => (∃ us, H a = some (.lst us) ∧ All2 (E.P H) us xs) ∧ (kT F).P H (.ref b) ys) (fun i H v H' => ∃ T u w x y, v = .ref T ∧ H T = none ∧ H' = L2.upd H T (.tup [u, w]) ∧ (List.zip xs ys)[i]? = some (x, y) ∧ E.P H u x ∧ F.P H w y) :=
  ⟨fun i H hi ⟨⟨us, h1, h2⟩, ⟨b', ws, e', g1, g2⟩⟩ => by
    cases e'
    rw [List.length_zip] at hi
    obtain ⟨u, hu, _⟩ := h2.getR (List.getElem?_eq_getElem (by omega : i < xs.length))
    obtain ⟨w, hw, _⟩ := g2.getR (List.getElem?_eq_getElem (by omega : i < ys.length))
    exact ⟨us, ws, u, w, SqL.of h1, g1, hu, hw⟩, fun H ⟨⟨us, h1, h2⟩, ⟨b', ws, e', g1, g2⟩⟩ => by
    cases e'
    have l1 := h2.len
    have l2 := g2.len
    exact ⟨us, ws, SqL.of h1, g1, by rw [List.length_zip]; omega, by rw [List.length_zip]; omega, by rw [List.length_zip]; omega⟩, fun i H v H' hi ⟨⟨us, h1, h2⟩, ⟨b', ws, e', g1, g2⟩⟩ ⟨T, u, w, e1, e2, e3, e4, e5⟩ => by
    cases e'
    obtain ⟨x, hx, px⟩ := h2.get (e4 us (SqL.of h1))
    obtain ⟨y, hy, py⟩ := g2.get (e5 ws g1)
    exact ⟨T, u, w, x, y, e1, e2, e3, zip_get hx hy, px, py⟩⟩
theorem c_forZm {xs : List α} {ys : List β} {a : Addr} {m0 : M} {bd : α × β → M → (M → Prop) → (M → Prop) → Prop} {k : M → Prop} {g : TG} {tb : TS} (hm : forL (List.zip xs ys) m0 bd k) (up : M → B → List (Option (Option V))) (Pm : M → B → List HA) (b0 : B) (h0 : σ = upds σ (up m0 b0)) (s0 : Sub L (Pm m0 b0 ++ R)) (t : Take (ls E a xs) R R') (t2 : Is (kT F) R u ys)
    (hs : (∀ m b, k m → Ent (Pm m b ++ R) (nx (upds σ (up m b)))) → ∀ x m b (nxt : M → Prop), bd x m nxt k → ∀ T u w, Ent (vl F w x.2 :: vl E u x.1 :: tu T [u, w] :: (Pm m b ++ R)) fun H => g (.ref T) (upds σ (up m b)) H fun σ2 H2 => tb ⟨fun σ' H' => ∃ m b, nxt m ∧ σ' = upds σ (up m b) ∧ Holds (Pm m b ++ R) H', rt, nx, fun σ' H' => ∃ m b, nxt m ∧ σ' = upds σ (up m b) ∧ Holds (Pm m b ++ R) H'⟩ σ2 H2)
    (hd : ∀ m b, k m → Ent (Pm m b ++ R) (nx (upds σ (up m b)))) : Ent L fun H => kZipM K (kLoop g tb ⟨nx, rt, bk, ct⟩ σ) [.ref a, u] H := fun H h => by
  have fr : ∀ m b H', Holds (Pm m b ++ R) H' → Holds R H' := fun m b H' z => by
    obtain ⟨S, z⟩ := z
    obtain ⟨S1, S2, _, z2, _⟩ := HL.app.mp z
    exact ⟨S2, z2⟩
  have hR := fr m0 b0 H (s0.to h)
  obtain ⟨us, h1, h2⟩ := t.ls hR
  obtain ⟨b, ws, rfl, g1, g2⟩ := t2 H hR
  exact ⟨a, b, us, ws, rfl, SqL.of h1, g1, forZ_core (walk_zipM (E := E) (F := F) xs ys a b) hm up Pm b0 h0 s0 (fun m b' H' z => ⟨t.ls (fr m b' H' z), t2 H' (fr m b' H' z)⟩) hs hd h⟩
end
end Toy
namespace Toy
open PySem L2 PySem.Spec PyProof.Rows
/-! ## a set of texts, as it lies -/
def txOf (e : Int × Value) : Str := match e.2 with
  | .str x _ => x
  | _ => Str.empty
def TxE (P : Program) (w : World) (e : Int × Value) : Prop := ∃ x u, e.2 = Value.str x u ∧ e.1 = (PySem.strKind P w).hash x
/-- the members are those of M, n of them -/
def SetS (P : Program) (w : World) (h : Heap) (a : Addr) (M : Str → Bool) (n : Nat) : Prop :=
  ∃ o rs ep tb, h.get? a = some o ∧ o.ExactSet ∧ o.data = .set rs ep tb ∧ (∀ e ∈ rs.toList, TxE P w e) ∧ (rs.toList.map txOf).Nodup ∧ (∀ x, M x = true ↔ x ∈ rs.toList.map txOf) ∧
    rs.size < scanBound ∧ tb.fits rs.size = true ∧ rs.size = n ∧ Ris tb.place.toList ∧ (w.params.followText "set-order" = true ∨ tb.led = true)
section
variable {P : Program} {w : World} {h h' : Heap} {a : Addr} {M : Str → Bool} {n : Nat}
theorem SetS.keep (R : SetS P w h a M n) (k : ∀ o, h.get? a = some o → h'.get? a = some o) : SetS P w h' a M n := by
  obtain ⟨o, rs, ep, tb, g0, r⟩ := R
  exact ⟨o, rs, ep, tb, k o g0, r⟩
theorem SetS.eqv {M' : Str → Bool} (R : SetS P w h a M n) (e : ∀ x, M' x = M x) : SetS P w h a M' n := by
  rw [show M' = M from funext e]; exact R
theorem tx_elems {l : List (Int × Value)} (g : ∀ e ∈ l, TxE P w e) : ElemsOf (PySem.strKind P w) l := fun e m => by
  obtain ⟨x, u, e1, e2⟩ := g e m
  exact ⟨⟨x, by rw [e1]; exact strKind_is P w x u, e2⟩, by rw [e1]; rfl⟩
theorem tx_is {e : Int × Value} (g : TxE P w e) (x : Str) : (PySem.strKind P w).is x e.2 = true ↔ txOf e = x := by
  obtain ⟨y, u, e1, _⟩ := g
  unfold txOf
  rw [e1]
  show ((y == x) = true) ↔ y = x
  exact beq_iff_eq
theorem tx_mem {l : List (Int × Value)} (g : ∀ e ∈ l, TxE P w e) (x : Str) : x ∈ l.map txOf ↔ ∃ e ∈ l, (PySem.strKind P w).is x e.2 = true := by
  rw [List.mem_map]
  refine ⟨fun ⟨e, m, q⟩ => ⟨e, m, (tx_is (g e m) x).mpr q⟩, fun ⟨e, m, q⟩ => ⟨e, m, (tx_is (g e m) x).mp q⟩⟩
end
section
variable {P : Program} {w : World} {A : Around} {E : Value → Shared → Prop} {s : Shared} {a : Addr} {M : Str → Bool} {n : Nat}
/-- behind the laying of one more row -/
theorem setS_tail {gv : Bool → Sem Unit} (hgv : ∀ (b : Bool) (s1 : Shared) (Q1 : Unit → Shared → Prop), Q1 () s1 → wpAny (model P w) A (gv b) Q1 E s1)
    {o : Obj} {rs : Array (Int × Value)} {ep : Nat} {tb : SetTable} (g0 : s.heap.get? a = some o) (gx : o.ExactSet) (gd : o.data = .set rs ep tb)
    {rs1 : Array (Int × Value)} {tb1 : SetTable} {M' : Str → Bool} (b1 : ∀ e ∈ rs1.toList, TxE P w e) (b2 : (rs1.toList.map txOf).Nodup) (b3 : ∀ x, M' x = true ↔ x ∈ rs1.toList.map txOf)
    (b4 : rs1.size < scanBound) (b5 : tb1.fits rs1.size = true) (b6 : Ris tb1.place.toList) (b7 : w.params.followText "set-order" = true ∨ tb1.led = true) {dm : Bool} {R : Option Bool → Shared → Prop}
    (hR : ∀ h1, Heap.SameBut a s.heap h1 → SetS P w h1 a M' rs1.size → R (some true) { s with heap := h1 }) :
    wpAny (model P w) A (do
        storeSet a rs1 tb1
        if (!dm && tb1.tooFull) = true then do
            gv (relayAll tb1 rs1 (SetTable.grown rs1.size)).2.2
            storeSet a (relayAll tb1 rs1 (SetTable.grown rs1.size)).1 (relayAll tb1 rs1 (SetTable.grown rs1.size)).2.1
            pure (some true)
          else pure (some true)) R E s := by
  refine wpAny_bind (wpAny_storeSet_of g0 gd ?_ (fits_of_scanBound b4))
  have g1 := store_at (es' := rs1) (t' := tb1) g0 gd
  have same := Heap.SameBut.update s.heap a (Obj.putSet rs1 tb1)
  split
  · have c1 := relayAll_perm tb1 rs1 (SetTable.grown rs1.size)
    have c2 := relayAll_fits tb1 rs1 (SetTable.grown rs1.size)
    have c3 := relayAll_ris tb1 rs1 (SetTable.grown rs1.size)
    have c4 := relayAll_led tb1 rs1 (SetTable.grown rs1.size)
    generalize relayAll tb1 rs1 (SetTable.grown rs1.size) = Y at c1 c2 c3 c4 ⊢
    obtain ⟨rs2, tb2, gave⟩ := Y
    dsimp only at c1 c2 c3 c4 ⊢
    have z : rs2.size = rs1.size := by rw [← Array.length_toList, c1.length_eq, Array.length_toList]
    have b8 : rs2.size < scanBound := z ▸ b4
    refine wpAny_bind (hgv _ _ _ (wpAny_bind (wpAny_storeSet_of g1 rfl ?_ (fits_of_scanBound b8))))
    have g2 := store_at (es' := rs2) (t' := tb2) g1 rfl
    refine wpAny_pure (hR _ (same.trans (Heap.SameBut.update _ a _)) ⟨_, rs2, _, tb2, g2, gx, rfl, fun e m => b1 e (c1.mem_iff.mp m), (c1.map txOf).nodup_iff.mpr b2, fun x => (b3 x).trans (c1.map txOf).mem_iff.symm, b8, c2, z, c3, b7.imp id fun y => ?_⟩)
    rw [c4]; exact y
  · exact wpAny_pure (hR _ same ⟨_, rs1, _, tb1, g1, gx, rfl, b1, b2, b3, b4, b5, rfl, b6, b7⟩)
theorem setS_add {x : Str} {u : Tok} {Q : Bool → Shared → Prop} (R : SetS P w s.heap a M n) (room : n + 1 < scanBound)
    (hQ : ∀ h1, Heap.SameBut a s.heap h1 → SetS P w h1 a (fun y => M y || decide (y = x)) (if M x = true then n else n + 1) → Q (!M x) { s with heap := h1 }) :
    wpAny (model P w) A (setAddHashed a (.str x u) ((PySem.strKind P w).hash x)) Q E s := by
  obtain ⟨o, rs, ep, tb, g0, gx, gd, b1, b2, b3, b4, b5, b6, b7, b8⟩ := R
  have isx : (PySem.strKind P w).is x (.str x u) = true := strKind_is P w x u
  have sc : (Value.str x u).scannable = true := rfl
  have els : ElemsOf (PySem.strKind P w) rs.toList := tx_elems b1
  unfold setAddHashed setAddHashedIn
  refine wpAny_holding (wpAny_bind (wpAny_setState_of g0 gd b5 ?_))
  dsimp only
  rw [byScan_of sc b4 els]
  simp only [↓reduceIte]
  unfold setAddByScan
  refine wpAny_bind (wpAny_bind (wpAny_rule (wpAny_bind (wpAny_setScan_of isx g0 gd b5 els ?_))))
  cases hf : List.findIdx? (fun e => (PySem.strKind P w).is x e.2) rs.toList with
  | some j =>
    dsimp only
    obtain ⟨hj, pj, _⟩ := List.findIdx?_eq_some_iff_getElem.mp hf
    have inx : M x = true := (b3 x).mpr ((tx_mem b1 x).mpr ⟨rs.toList[j], List.getElem_mem hj, pj⟩)
    have q := hQ s.heap (Heap.SameBut.refl a s.heap) ⟨o, rs, ep, tb, g0, gx, gd, b1, b2, fun y => by
      rw [Bool.or_eq_true, decide_eq_true_eq, ← b3 y]
      exact ⟨fun z => z.elim id fun e => e ▸ inx, .inl⟩, b4, b5, by rw [if_pos inx]; exact b6, b7, b8⟩
    rw [inx] at q
    exact wpAny_pure (wpAny_pure q)
  | none =>
    dsimp only
    have nix : x ∉ rs.toList.map txOf := fun z => by
      obtain ⟨e, m, q⟩ := (tx_mem b1 x).mp z
      have c := List.findIdx?_eq_none_iff.mp hf e m
      rw [q] at c
      cases c
    have outx : M x = false := by
      cases q : M x with
      | false => rfl
      | true => exact absurd ((b3 x).mp q) nix
    have c1 := layNew_perm tb rs ((PySem.strKind P w).hash x) (.str x u)
    have c2 := layNew_fits tb rs ((PySem.strKind P w).hash x) (.str x u)
    have c3 := layNew_ris tb rs ((PySem.strKind P w).hash x) (.str x u) b7
    have c4 := layNew_led tb rs ((PySem.strKind P w).hash x) (.str x u)
    generalize layNew tb rs ((PySem.strKind P w).hash x) (.str x u) = Y at c1 c2 c3 c4 ⊢
    obtain ⟨rs1, tb1, dm, gave⟩ := Y
    dsimp only at c1 c2 c3 c4 ⊢
    rw [Array.toList_push] at c1
    have c5 : rs1.toList.Perm (((PySem.strKind P w).hash x, Value.str x u) :: rs.toList) := c1.trans (List.perm_append_singleton _ _)
    have c6 : (rs1.toList.map txOf).Perm (x :: rs.toList.map txOf) := c5.map txOf
    have d1 : ∀ e ∈ rs1.toList, TxE P w e := fun e m => by
      rcases List.mem_cons.mp (c5.mem_iff.mp m) with z | z
      · rw [z]; exact ⟨x, u, rfl, rfl⟩
      · exact b1 e z
    have d2 : (rs1.toList.map txOf).Nodup := c6.nodup_iff.mpr (List.nodup_cons.mpr ⟨nix, b2⟩)
    have d3 : ∀ y, (M y || decide (y = x)) = true ↔ y ∈ rs1.toList.map txOf := fun y => by
      rw [Bool.or_eq_true, decide_eq_true_eq, b3 y, c6.mem_iff, List.mem_cons]
      exact Or.comm
    have d4 : rs1.size = n + 1 := by rw [← Array.length_toList, c5.length_eq, List.length_cons, Array.length_toList, b6]
    have d5 : rs1.size < scanBound := d4 ▸ room
    have d6 : w.params.followText "set-order" = true ∨ tb1.led = true := b8.imp id fun z => c4 ▸ z
    have last : ∀ h1, Heap.SameBut a s.heap h1 → SetS P w h1 a (fun y => M y || decide (y = x)) rs1.size → Q true { s with heap := h1 } := fun h1 sb r => by
      have q := hQ h1 sb
      rw [outx] at q
      rw [d4] at r
      exact q r
    refine wpAny_bind ?_
    have go : ∀ (b : Bool) {s1 : Shared} {Q1 : Unit → Shared → Prop}, Q1 () s1 → wpAny (model P w) A (match b with | true => rule "set.scan.the-table-gave-way" | false => pure ()) Q1 E s1 :=
      fun b s1 Q1 q => by cases b <;> first | exact wpAny_pure q | exact wpAny_rule q
    refine go _ ?_
    split
    · refine wpAny_bind ?_
      rw [hashByValue_scannable 8 sc]
      refine wpAny_pure (setS_tail ?_ g0 gx gd d1 d2 d3 d5 ?_ ?_ ?_ ?_)
      · intro b s1 Q1 q; cases b <;> first | exact wpAny_pure q | exact wpAny_rule q
      · first | (split <;> first | exact c2 | exact SetTable.fits_plain_off c2) | exact c2
      · first | (split <;> exact c3) | exact c3
      · first | (split <;> exact d6) | exact d6
      · intro h1 sb r; dsimp only; exact wpAny_pure (last h1 sb r)
    · refine wpAny_bind (wpAny_pure ?_)
      simp only [↓reduceIte]
      refine setS_tail ?_ g0 gx gd d1 d2 d3 d5 c2 c3 d6 ?_
      · intro b s1 Q1 q; cases b <;> first | exact wpAny_pure q | exact wpAny_rule q
      · intro h1 sb r; dsimp only; exact wpAny_pure (last h1 sb r)
theorem setS_new {h : Heap} {xs : List Str} (g0 : h.get? a = some { cls := .type "set", dict := none, data := .set #[] 0 (.fresh 0 0 (!w.params.followText "set-order")) }) : SetS P w h a (fun y => decide (y ∈ xs.take 0)) 0 :=
  ⟨_, #[], 0, _, g0, ⟨rfl, rfl, rfl⟩, rfl, (fun e m => by simp at m), (by simp), (fun y => by simp), (by decide), (by rfl), rfl, List.Pairwise.nil, by
    cases c : w.params.followText "set-order"
    · exact .inr rfl
    · exact .inl rfl⟩
/-- the texts of a walk are put into a set, one by one -/
theorem setS_all {I : Addr} {fp wr : List Addr} {G : Array GenState → Array GenState → Prop} {n : Nat} {Pv : Nat → Value → Prop} {St : Nat → Shared → Prop} {R : Result → Shared → Prop}
    (W : WalksS P w A.in1 I fp wr G n Pv St) (D : Addr) (hD : D ∉ fp) (xs : List Str) (hn : n = xs.length) (hb : xs.length + 1 < scanBound) (hv : ∀ i v, Pv i v → ∃ x u, xs[i]? = some x ∧ v = .str x u) :
    ∀ (k i : Nat) (s : Shared), n - i = k → i ≤ n → St i s → (∃ c, c ≤ i ∧ SetS P w s.heap D (fun y => decide (y ∈ xs.take i)) c) →
      (∀ s1 c, Moved (D :: wr) G s s1 → c ≤ n → SetS P w s1.heap D (fun y => decide (y ∈ xs)) c → R (.ok (.ret .none)) s1) →
      codeAny (model P w) A (.builtin "set.update.loop" ⟨[.ref D, .ref I], []⟩) R s := by
  have nD : D ∉ wr := fun m => hD (W.sub _ m)
  intro k
  induction k with
  | zero =>
    intro i s e1 e2 st ⟨c, lc, S⟩ hR
    obtain rfl : i = n := by omega
    refine codeAny_builtin F.entry_set_update_loop ?_
    rw [Around.under_plainId F.plain_set_update_loop _]
    show wpAny _ A.in1 (pyNext (.ref I) >>= _) _ _ s
    refine wpAny_bind (W.done s _ _ st fun s1 mv => ?_)
    rw [List.take_of_length_le (by omega)] at S
    exact wpAny_pure (hR s1 c (mv.mono fun b m => List.mem_cons_of_mem _ m) lc (S.keep fun o e => mv.heap D o nD e))
  | succ k ih =>
    intro i s e1 e2 st ⟨c, lc, S⟩ hR
    have lt : i < n := by omega
    refine codeAny_builtin F.entry_set_update_loop ?_
    rw [Around.under_plainId F.plain_set_update_loop _]
    show wpAny _ A.in1 (pyNext (.ref I) >>= _) _ _ s
    refine wpAny_bind (W.item i s _ _ lt st fun v s1 pv st1 mv => ?_)
    obtain ⟨x, u, ex, rfl⟩ := hv i v pv
    have S1 : SetS P w s1.heap D (fun y => decide (y ∈ xs.take i)) c := S.keep fun o e => mv.heap D o nD e
    show wpAny _ A.in1 (holding [Value.str x u] (setAdd D (.str x u)) >>= _) _ _ s1
    refine wpAny_bind (wpAny_holding ?_)
    unfold setAdd
    refine wpAny_holding (wpAny_bind ((PySem.strKind P w).pyHash (k := x) (strKind_is _ _ _ _) ?_))
    refine setS_add (s := { s1 with toks := s1.toks + 1 }) S1 (by omega) fun h1 sb S2 => ?_
    have S3 : SetS P w h1 D (fun y => decide (y ∈ xs.take (i + 1))) (if decide (x ∈ xs.take i) = true then c else c + 1) := S2.eqv fun y => by
      rw [List.take_add_one, ex]
      simp [List.mem_append]
    have lc2 : (if decide (x ∈ xs.take i) = true then c else c + 1) ≤ i + 1 := by split <;> omega
    refine wpAny_pure ⟨plainId_quiet F.plain_set_update_loop _, ih (i + 1) _ (by omega) lt (W.frame _ s1 _ _ st1 (Nat.le_succ _) fun b m o e => ?_) ⟨_, lc2, S3⟩ fun s2 c2 mv2 lc3 S4 => ?_⟩
    · rw [sb.2 b fun z => hD (z ▸ m)]; exact e
    · refine hR s2 c2 (Moved.trans W.gtrans ((mv.mono fun b m => List.mem_cons_of_mem _ m).then_heap (Nat.le_succ _) fun b o m e => ?_) mv2) lc3 S4
      rw [sb.2 b fun z => m (by rw [z]; exact List.mem_cons_self)]; exact e
/-! ## set(xs) of a list of texts -/
set_option maxHeartbeats 3200000 in
theorem call_setLS {l : Addr} {items : Array Value} (ns : List Str) {Q : Value → Shared → Prop} (hh : A.handled = none) (hl : s.heap.IsList l items) (hit : StrsAre items.toList ns) (hb : ns.length + 1 < scanBound)
    (h : ∀ (h' : Heap) (tk c : Nat), SetS P w h' s.heap.objs.size (fun j => decide (j ∈ ns)) c → c ≤ ns.length → (∀ b o, s.heap.get? b = some o → h'.get? b = some o) → Q (.ref s.heap.objs.size) { s with heap := h', toks := tk }) :
    wpAny (model P w) A (call (.type "set") [.ref l]) Q E s := by
  have hisz : items.size = ns.length := by
    have q := StrsAre.length hit
    rw [Array.length_toList] at q
    exact q
  obtain ⟨c, tl, hmro⟩ := F.called_set.mro
  have hmade := F.called_set.made
  have hsub := F.called_set.sub
  refine wpAny_call (codeAny_of_tree ?_)
  show wpAny _ _ (callAny (.type "set") _) _ _ _
  refine wpAny_pure ⟨Code.quiet_builtin _ (by decide +kernel), codeAny_builtin F.entry_type_call ?_⟩
  rw [Around.under_plain (weight_type_call_type "set" [.ref l] []) rfl]
  have h1 := F.called_set.notType
  have h2 := F.called_set.canCreate
  have hct := F.typeCall_set_1 (.ref l)
  repeat (any_goals (first | assumption | wp_step))
  generalize hO : ({ cls := .type "set", dict := none, data := .set #[] 0 (.fresh 0 0 (!w.params.followText "set-order")) } : Obj) = ob
  refine codeAny_mono (code_set_led1 (.ref l) (E := E) (Q₁ := fun obj s₁ => obj = .ref s.heap.objs.size ∧ s₁ = { s with heap := s.heap.push ob }) (by rw [hO]; exact ⟨rfl, rfl⟩)) fun r s₁ hr => ?_
  match r, hr with
  | .error e, hr => exact hr
  | .ok .next, hr => exact hr.elim
  | .ok .brk, hr => exact hr.elim
  | .ok .cont, hr => exact hr.elim
  | .ok (.ret obj), hr =>
    obtain ⟨rfl, rfl⟩ := hr
    have hS : (s.heap.push ob).get? s.heap.objs.size = some ob := Heap.get?_push_size _ (by rw [← hO]; rfl)
    have hT : Shared.TypeIs { s with heap := s.heap.push ob } (.ref s.heap.objs.size) "set" := ⟨_, hS, by rw [← hO]⟩
    have hli := F.called_set.init.lookup
    have hbi := F.called_set.init.bind (.ref s.heap.objs.size)
    repeat (any_goals (first | assumption | wp_step))
    refine codeAny_mono (codeAny_call_builtin (R := wants (fun r s₂ => r = .none ∧ ∃ h' tk c, s₂ = { s with heap := h', toks := tk } ∧ SetS P w h' s.heap.objs.size (fun j => decide (j ∈ ns)) c ∧ c ≤ ns.length ∧
        (∀ b o, s.heap.get? b = some o → h'.get? b = some o)) E) F.called_set.init.plain F.entry_set_init (check_set_init_1 hT ?_)) fun r₂ s₂ hr₂ => ?_
    · obtain ⟨⟨ocls, odict, odata, oslots⟩, hol, hcl, nl, hdl⟩ := hl
      simp only at hcl hdl
      subst hcl; subst hdl
      have hlS : l < s.heap.objs.size := Heap.lt_size hol
      have hz1 : (s.heap.push ob).objs.size = s.heap.objs.size + 1 := Heap.size_push ..
      have hl1 : (s.heap.push ob).IsList l items := ⟨_, Heap.get?_push_of_some _ hol, rfl, nl, rfl⟩
      have hsls := F.sub_list_set
      have hslf := F.sub_list_frozenset
      have hne : (Value.type "list" == Value.type "dict") = false := by decide
      have hol' := Heap.get?_push_of_some ob hol
      subst hO
      unfold Builtin.«set.__init__» noKeywords Builtin.Frozenset.updateFrom
      generalize hPI : pyIter = PI
      wp_walk
      subst hPI
      refine wpAny_pyIter_list hl1 ?_
      refine wpAny_bind (wpAny_runValue ?_)
      have hh3 : A.in1.in1.in1.handled = none := by simp [hh]
      have hval : ∀ (i : Nat) (v : Value), items[i]? = some v → ∃ k t, ns[i]? = some k ∧ v = .str k t := fun i v hv => by
        have hi : i < ns.length := by rw [← hisz]; exact (Array.getElem?_eq_some_iff.mp hv).1
        obtain ⟨x, t, e1, e2⟩ := PyProof.Rows.StrsAre.item hit i v (by rw [Array.getElem?_toList]; exact hv)
        exact ⟨x, t, e2, e1⟩
      refine setS_all ((Walks.list hh3 _ l (by rw [Heap.size_push]; exact Nat.ne_of_lt (Nat.lt_succ_of_lt hlS)) items).toS) s.heap.objs.size
        (by rw [Heap.size_push]; simp only [List.mem_cons, List.not_mem_nil, or_false, not_or]; exact ⟨Nat.ne_of_lt (Nat.lt_succ_self _), Nat.ne_of_gt hlS⟩) ns hisz hb hval (items.size - 0) 0 _ (by omega) (Nat.zero_le _)
        ⟨⟨_, Heap.get?_push_size _ rfl, rfl, rfl⟩, (hl1.push _)⟩ ⟨0, Nat.le_refl 0, setS_new (Heap.get?_push_of_some _ hS)⟩ fun s' c' hm hc' hS' => ?_
      obtain ⟨h', g2, d', tk', os'⟩ := s'
      have eg : g2 = s.gens := hm.gens
      have ed : d' = s.drawn := hm.drawn
      have eo : os' = s.os := hm.os
      subst eg; subst ed; subst eo
      show wpAny _ _ _ _ _ _
      refine wpAny_pure ?_
      show wpAny _ _ (ret Value.none) _ _ _
      rw [hisz] at hc'
      refine wpAny_pure ⟨rfl, h', tk', c', rfl, hS', hc', fun b o e => ?_⟩
      have hb0 : b < s.heap.objs.size := Heap.lt_size e
      exact hm.heap b o (by rw [Heap.size_push]; simp only [List.mem_cons, List.not_mem_nil, or_false, not_or]; exact ⟨Nat.ne_of_lt hb0, Nat.ne_of_lt (Nat.lt_succ_of_lt hb0)⟩) (Heap.get?_push_of_some _ (Heap.get?_push_of_some _ e))
    · match r₂, hr₂ with
      | .error e, hr₂ => exact hr₂
      | .ok .next, hr₂ => exact hr₂.elim
      | .ok .brk, hr₂ => exact hr₂.elim
      | .ok .cont, hr₂ => exact hr₂.elim
      | .ok (.ret r), hr₂ =>
        obtain ⟨rfl, h', tk, c', rfl, hS', hc', hk'⟩ := hr₂
        repeat (any_goals (first | assumption | wp_step))
        exact h _ _ _ hS' hc' hk'
/-! ## sorted of it -/
theorem enc_txt (xs : List Str) : PySem.W.AllAlike (xs.map PyData.str) ∧ PySem.W.Sortable (xs.map PyData.str) := by
  refine ⟨PySem.W.AllAlike.of fun x y => ?_, PySem.W.Sortable.others fun x => ⟨(by intro z; cases z), (by intro ys z; cases z)⟩⟩
  show PySem.W.alike (.str x) (.str y) = true
  simp [PySem.W.alike]
theorem each_txt : ∀ {vs : List Value}, (∀ v ∈ vs, ∃ x u, v = Value.str x u) → ∃ xs : List Str, PySem.W.EachIs (fun v x => ∃ u, v = Value.str x u) vs xs ∧ StrsAre vs xs ∧ ∀ (f : Value → Str), (∀ x u, f (.str x u) = x) → xs = vs.map f
  | [], _ => ⟨[], .nil, .nil, fun _ _ => rfl⟩
  | v :: vs, h => by
    obtain ⟨x, u, rfl⟩ := h v List.mem_cons_self
    obtain ⟨xs, e, st, q⟩ := each_txt fun v m => h v (List.mem_cons_of_mem _ m)
    exact ⟨x :: xs, .cons ⟨u, rfl⟩ e, .cons _ _ st, fun f hf => by rw [List.map_cons, hf, q f hf]⟩
theorem strs_each : ∀ {vs : List Value} {xs : List Str}, PySem.W.EachIs (fun v x => ∃ u, v = Value.str x u) vs xs → StrsAre vs xs
  | _, _, .nil => .nil
  | _, _, .cons ⟨u, e⟩ t => by subst e; exact .cons _ _ (strs_each t)
theorem sort_setS {Q : Value → Shared → Prop} (R : SetS P w s.heap a M n) (hh : A.handled = none) (h64 : n < 64) (hu : A.units + 8 < cLine)
    (hQ : ∀ s1 p (out : Array Value) (c : Nat) (xs : List Str), (∀ b o, s.heap.get? b = some o → s1.heap.get? b = some o) → s1.gens = s.gens → s1.os = s.os → s.heap.objs.size ≤ p →
      s1.heap.get? p = some (seqObj "list" out c) → StrsAre out.toList xs → xs.Nodup → (∀ x, x ∈ xs ↔ M x = true) → xs.length = n → Q (.ref p) s1) :
    wpAny (model P w) A (call (.builtin "sorted") [.ref a]) Q E s := by
  obtain ⟨o, rs, ep, tb, g0, gx, gd, b1, b2, b3, b4, b5, b6, b7, b8⟩ := R
  refine Calls.call_function_entry kind_sorted plain_sorted entry_sorted (args_sorted1 _) ?_
  unfold Builtin.«sorted»
  refine wpAny_bind (m := checkCount "sorted" 1 1 _) (wpAny_pure ?_)
  refine wpAny_bind (collect_set (A := A.in1) hh ⟨o, g0, gx.1, gd⟩ b5 b4 b7 b8 fun s1 vs k1 big eg es pm => ?_)
  have len : vs.length = n := by rw [pm.length_eq, List.length_map, Array.length_toList]; exact b6
  obtain ⟨xs, ex, sx, mx⟩ := each_txt (vs := vs) fun v m => by
    obtain ⟨e, he, q⟩ := List.mem_map.mp (pm.mem_iff.mp m)
    obtain ⟨x, u, h1, _⟩ := b1 e he
    exact ⟨x, u, q ▸ h1⟩
  have px : xs.Perm (rs.toList.map txOf) := by
    have q := pm.map fun v => txOf (0, v)
    rw [List.map_map, ← mx (fun v => txOf (0, v)) fun _ _ => rfl] at q
    exact q
  have lx : xs.length = n := by rw [px.length_eq, List.length_map, Array.length_toList]; exact b6
  refine wpAny_bind (wpAny_newList ?_ (by rw [len, sizeLine_eq]; omega))
  have gl : (s1.heap.push (seqObj "list" vs.toArray 0)).get? s1.heap.objs.size = some (seqObj "list" vs.toArray 0) := Heap.get?_push_size _ rfl
  refine wpAny_bind (wpAny_holding (PySem.W.list_sort_data (enc := PyData.str) (bs := xs) (s := { s1 with heap := s1.heap.push (seqObj "list" vs.toArray 0) }) gl ex (ex.mono fun v x ⟨u, e⟩ => ⟨[], e ▸ PySem.Reads.str x u, by simp⟩) (enc_txt xs).1 (enc_txt xs).2 (by rw [lx, sizeLine_eq]; omega) (fun x _ => ?_) fun out lo eo => ?_))
  · show A.in1.units + 1 + (PyData.str x).depth < cLine
    simp only [PyData.depth, units_in1]
    omega
  · obtain ⟨c, hc⟩ := sortedHeap_at (vs := vs) (out := List.toArray out) gl
    have pq : (xs.mergeSort (PySem.W.dataLe false PyData.str)).Perm (rs.toList.map txOf) := (List.mergeSort_perm ..).trans px
    refine wpAny_pure ⟨_, rfl, hQ _ s1.heap.objs.size _ c _ (fun b y e => ?_) eg es big hc (strs_each eo) (pq.nodup_iff.mpr b2) (fun x => by rw [pq.mem_iff, ← b3 x]) (by rw [pq.length_eq, List.length_map, Array.length_toList]; exact b6)⟩
    have q := k1 b y e
    have lt := Heap.lt_size q
    show (sortedHeap (s1.heap.push (seqObj "list" vs.toArray 0)) s1.heap.objs.size vs (List.toArray out)).get? b = some y
    rw [sortedHeap_old (Nat.ne_of_lt lt) (by rw [size_push']; exact Nat.lt_succ_of_lt lt)]
    exact Heap.get?_push_of_some _ q
end
end Toy
namespace Toy
open PySem L2 PySem.Spec PyProof.Rows
/-! ## set and sorted of texts, over the layer -/
def SetTx (P : Program) (w : World) (a : Addr) (ns : List Str) (c : Nat) : HO := .ext fun h => SetS P w h a (fun y => decide (y ∈ ns)) c
theorem setTx_ok {P : Program} {w : World} {H : Hp} {h : Heap} {a : Addr} {ns : List Str} {c : Nat} (R : SetS P w h a (fun y => decide (y ∈ ns)) c) : ObjOk P w H h a (SetTx P w a ns c) := by
  have ⟨o, rs, ep, tb, g0, _⟩ := id R
  exact ⟨R, ⟨o, g0⟩, fun h1 h2 x k => SetS.keep x k⟩
section
variable {X : Cx} {P : Program} {w : World} {K : PySem.W.Frag}
theorem vals_txt : ∀ {xs : List Str} {us : List Value}, Vals (xs.map V.str) us → StrsAre us xs
  | [], _, .nil => .nil
  | x :: xs, _, .cons r t => by
    obtain ⟨u, rfl⟩ := r
    exact .cons _ _ (vals_txt t)
theorem txt_vals : ∀ {us : List Value} {xs : List Str}, StrsAre us xs → Vals (xs.map V.str) us
  | _, _, .nil => .nil
  | _, _, .cons x u t => .cons ⟨u, rfl⟩ (txt_vals t)
def rSetTx (P : Program) (w : World) (K : PySem.W.Frag) : List V → Hp → VK → Prop := fun xs H Q => ∃ (l : Addr) (ns : List Str), xs = [.ref l] ∧ SqL K H l (ns.map V.str) ∧ ns.length + 1 < scanBound ∧
  ∀ (p : Addr) (c : Nat), H p = none → c ≤ ns.length → Q (.ref p) (L2.upd H p (SetTx P w p ns c))
theorem cr_setTx (hc : X.calm = true := by rfl) (hP : X.prog = P := by rfl) (hw : X.w = w := by rfl) (hK : X.K = K := by rfl) : CallR X (.type "set") (rSetTx P w K) := by
  subst hP hw hK
  intro pins s σ H xs us Q I r h
  obtain ⟨l, ns, rfl, hq, hb, q⟩ := h
  rw [Vals.ref1 r]
  obtain ⟨its, rv, pl, hz⟩ := I.list hq
  refine call_setLS (P := X.prog) ns (I.ok.hd hc) pl.isList (by simpa using vals_txt rv) hb fun h' tk c hS hcn hk => ?_
  exact ⟨.ref _, L2.upd H s.heap.objs.size (SetTx X.prog X.w s.heap.objs.size ns c), I.laid (t' := tk) hk (Nat.le_refl _) (setTx_ok hS), rfl, q _ c (I.hok.fresh (Nat.le_refl _)) hcn⟩
def rSortTx (P : Program) (w : World) : List V → Hp → VK → Prop := fun vs H Q => ∃ (a : Addr) (ns : List Str) (c : Nat), vs = [.ref a] ∧ H a = some (SetTx P w a ns c) ∧ c < 64 ∧
  ∀ (ys : List Str) (p : Addr), ys.Nodup → (∀ x, x ∈ ys ↔ x ∈ ns) → H p = none → Q (.ref p) (L2.upd H p (.lst (ys.map V.str)))
theorem cr_sortTx (hc : X.calm = true) (hu : X.A.units + 64 < cLine) (hP : X.prog = P := by rfl) (hw : X.w = w := by rfl) : CallR X (.builtin "sorted") (rSortTx P w) := by
  subst hP hw
  intro pins s σ H vs us Q I r h
  obtain ⟨a, ns, c, rfl, ha, h64, q⟩ := h
  have R : SetS X.prog X.w s.heap a (fun y => decide (y ∈ ns)) c := (I.hok a _ ha).1
  rw [Vals.ref1 r]
  refine sort_setS R (I.ok.hd hc) h64 (by omega) fun s1 p out n ys k eg eo big g0 st nd mem len => ?_
  have e : s1 = { s with heap := s1.heap, drawn := s1.drawn, toks := s1.toks } := by
    cases s1; cases s; cases eg; cases eo; rfl
  have np : H p = none := I.hok.fresh big
  have lz : (ys.map V.str).length ≤ sizeLine := by rw [List.length_map, len, sizeLine_eq]; omega
  have J : Inv X pins σ (L2.upd H p (.lst (ys.map V.str))) { s with heap := s1.heap, drawn := s1.drawn, toks := s1.toks } := by
    have J0 : Inv X pins σ (L2.upd H p (.lst (ys.map V.str))) { s with heap := s1.heap, gens := s.gens, drawn := s1.drawn, toks := s1.toks } :=
      I.call (ch := []) (Un.laid k big np) (I.hok.laid k big ⟨lz, out.toList, n, txt_vals st, g0⟩) I.bare (fun _ z => nomatch z)
    exact J0
  rw [e]
  exact ⟨.ref p, _, J, rfl, q ys p nd (fun x => (mem x).trans (by simp)) np⟩
end
/-! ## sorted, of things of one kind -/
/-- what can be sorted: all alike -/
class ElS {α : Type} {K : PySem.W.Frag} (E : El K α) : Prop where
  al : ∀ x y, PySem.W.alike (E.d x) (E.d y) = true
  so : (∀ x, ∃ y r, E.d x = .tuple (y :: r)) ∨ ∀ x, E.d x ≠ .none ∧ ∀ ys, E.d x ≠ .tuple ys
/-- the order of what d tells -/
def srtD {α : Type} (d : α → PyData) (xs : List α) : List α := xs.mergeSort (PySem.W.dataLe false d)
theorem srtD_perm {α : Type} {d : α → PyData} (xs : List α) : (srtD d xs).Perm xs := List.mergeSort_perm ..
theorem srtD_len {α : Type} {d : α → PyData} (xs : List α) : (srtD d xs).length = xs.length := (srtD_perm xs).length_eq
abbrev kSI {K : PySem.W.Frag} : El K (Str × Int) := kTup (kC kSt (kC1 kI))
def dSI (x : Str × Int) : PyData := .tuple [.str x.1, .int x.2]
instance {K : PySem.W.Frag} : ElS (kSI (K := K)) := ⟨fun x y => by
  show PySem.W.alike (.tuple [.str x.1, .int x.2]) (.tuple [.str y.1, .int y.2]) = true
  simp [PySem.W.alike, PySem.W.alikeAll], .inl fun x => ⟨.str x.1, [.int x.2], rfl⟩⟩
section
variable {X : Cx} {K : PySem.W.Frag} {α : Type} {E : El K α}
def rSortD (E : El K α) : List V → Hp → VK → Prop := fun vs H Q => ∃ (a : Addr) (us : List V) (xs : List α), vs = [.ref a] ∧ SqL K H a us ∧ All2 (E.P H) us xs ∧ xs.length ≤ 100000 ∧
  ∀ (ws : List V) (p : Addr), All2 (E.P H) ws (srtD E.d xs) → H p = none → Q (.ref p) (L2.upd H p (.lst ws))
theorem each_of {pins : List (Addr × Obj)} {σ : L2.St} {H : Hp} {s : Shared} (I : Inv X pins σ H s) (hK : X.K = K) : ∀ {us : List V} {its : List Value} {xs : List α}, Vals us its → All2 (E.P H) us xs →
    PySem.W.EachIs (fun v x => (∃ u, RelV u v ∧ E.P H u x) ∧ ∃ as, Reads s.heap v (E.d x) as) its xs := by
  subst hK
  intro us its xs r a
  induction a generalizing its with
  | nil => cases r; exact .nil
  | @cons u x us xs hu _ ih =>
    cases r with
    | cons r1 r2 =>
      obtain ⟨as, rd⟩ := Dp.reads I _ _ _ (E.dp hu) r1
      exact .cons ⟨⟨u, r1, hu⟩, as, rd⟩ (ih r2)
theorem of_each {H : Hp} : ∀ {its : List Value} {xs : List α}, PySem.W.EachIs (fun v x => ∃ u, RelV u v ∧ E.P H u x) its xs → ∃ us, Vals us its ∧ All2 (E.P H) us xs
  | _, _, .nil => ⟨[], .nil, .nil⟩
  | _, _, .cons ⟨u, r, h⟩ t => by
    obtain ⟨us, r2, h2⟩ := of_each t
    exact ⟨u :: us, .cons r r2, .cons h h2⟩
theorem cr_sortD (E : El K α) [DecidableEq α] [S : ElS E] [D : ElD E] (hu : X.A.units + 64 < cLine) (hn : D.n ≤ 60 := by exact Nat.le_of_ble_eq_true rfl) (hK : X.K = K := by rfl) : CallR X (.builtin "sorted") (rSortD E) := by
  intro pins s σ H vs us Q I r h
  obtain ⟨a, ws, xs, rfl, hs, ha, hl, q⟩ := h
  obtain ⟨its, rv, pl, hz⟩ := I.list (hK ▸ hs)
  have e := each_of I hK rv ha
  have len : its.length = xs.length := e.length
  rw [Vals.ref1 r]
  refine PySem.W.sorted_data (R := fun v x => ∃ u, RelV u v ∧ E.P H u x) (enc := E.d) (bs := xs) pl.isList (e.mono fun _ _ z => z.1) (e.mono fun _ _ z => z.2) (PySem.W.AllAlike.of S.al) ?_ (by rw [sizeLine_eq]; omega) (fun x _ => ?_) fun out lo eo => ?_
  · rcases S.so with h | h
    · exact PySem.W.Sortable.tuples h
    · exact PySem.W.Sortable.others h
  · have := D.dep x
    omega
  · obtain ⟨us', r', a'⟩ := of_each eo
    obtain ⟨n, hn⟩ := PyProof.Rows.sortedAll_at s.heap its (List.toArray out)
    have lu : us'.length = xs.length := by rw [a'.len, List.length_mergeSort]
    exact ⟨.ref (s.heap.objs.size + 1), L2.upd H (s.heap.objs.size + 1) (.lst us'), I.laid (t' := s.toks) (fun b o e => PyProof.Rows.sortedAll_old e) (Nat.le_succ _) ⟨by rw [lu, sizeLine_eq]; omega, out, n, r', hn⟩, rfl, q _ _ a' (I.hok.fresh (Nat.le_succ _))⟩
end
section
variable {K : PySem.W.Frag} {α : Type} {E : El K α} {L R : List HA} {Q : VK} {l : Addr}
theorem c_sortD {xs : List α} {k : Prop} (hm : grd (xs.length ≤ 100000) k) (t : Take (ls E l xs) L R) (q : k → ∀ p, Ent (ls E p (srtD E.d xs) :: L) (Q (.ref p))) : Ent L fun H => rSortD E [.ref l] H Q := fun H h => by
  obtain ⟨us, h1, h2⟩ := t.ls h
  exact ⟨l, us, xs, rfl, SqL.of h1, h2, hm.1, fun ws p a np => q hm.2 p _ (h.ls_new np a)⟩
end
/-! ## a dict of a list of pairs with text keys -/
def dop {α : Type} (xs : List (Str × α)) : List (Str × α) := xs.foldl (fun d p => dp d p.1 p.2) []
section
variable {X : Cx} {K : PySem.W.Frag} {α : Type} {E : El K α} {L R : List HA} {Q : VK} {l : Addr}
def rDictP (K : PySem.W.Frag) : List V → Hp → VK → Prop := fun xs H Q => ∃ (a : Addr) (ps : List Addr) (kvs : List (L2.Key × V)), xs = [.ref a] ∧ SqL K H a (ps.map V.ref) ∧ Paired (fun p kv => SqT K H p [kV kv.1, kv.2]) ps kvs ∧
    ∀ p, H p = none → Q (.ref p) (L2.upd H p (.dK (mergeK [] kvs)))
theorem cr_dictP (hc : X.calm = true := by rfl) (hK : X.K = K := by rfl) : CallR X (.type "dict") (rDictP K) := by
  subst hK
  exact call_dictP hc
theorem pairs_at {H : Hp} : ∀ {us : List V} {xs : List (Str × α)}, All2 ((kTup (kC kSt (kC1 E))).P H) us xs → ∃ (ps : List Addr) (kvs : List (L2.Key × V)), us = ps.map V.ref ∧ Paired (fun p kv => SqT K H p [kV kv.1, kv.2]) ps kvs ∧ All2 (DkR fS E H) kvs xs
  | _, _, .nil => ⟨[], [], rfl, .nil, .nil⟩
  | _, _, .cons (y := x) h t => by
    obtain ⟨ps, kvs, e, p, d⟩ := pairs_at t
    obtain ⟨a, us, e0, ht, u0, us1, e1, ⟨h0, _⟩, u1, e2, h1⟩ := h
    subst e0 e1 e2 h0
    exact ⟨a :: ps, (fS x.1, u1) :: kvs, by rw [e]; rfl, .cons (SqT.of ht) p, .cons ⟨rfl, h1⟩ d⟩
theorem merge_dk {H : Hp} : ∀ {kvs : List (L2.Key × V)} {xs : List (Str × α)}, All2 (DkR fS E H) kvs xs → ∀ {ks : List (L2.Key × V)} {d : List (Str × α)}, All2 (DkR fS E H) ks d → All2 (DkR fS E H) (mergeK ks kvs) (xs.foldl (fun d p => dp d p.1 p.2) d)
  | _, _, .nil, _, _, h => h
  | _, _, .cons (x := kv) (y := x) z t, ks, d, h => by
    show All2 _ (mergeK (putK ks kv.1 kv.2) _) _
    rw [List.foldl_cons]
    rw [z.1]
    exact merge_dk t (dkR_put fS_inj h x.1 z.2)
theorem c_dictP {xs : List (Str × α)} (t : Take (ls (kTup (kC kSt (kC1 E))) l xs) L R) (q : ∀ p, Ent (dk fS E p (dop xs) :: L) (Q (.ref p))) : Ent L fun H => rDictP K [.ref l] H Q := fun H h => by
  obtain ⟨us, h1, h2⟩ := t.ls h
  obtain ⟨ps, kvs, rfl, pr, d⟩ := pairs_at h2
  exact ⟨l, ps, kvs, rfl, SqL.of h1, pr, fun p np => q p _ (h.dk_new np (merge_dk d .nil))⟩
end
/-! ## == of dicts with whole numbers -/
def dqB {α : Type} [DecidableEq α] (d e : List (Str × α)) : Bool := decide (d.length = e.length) && d.all fun p => decide (dg e p.1 = some p.2)
section
variable {X : Cx} {K : PySem.W.Frag} {L R R' : List HA} {Q : VK} {a b : Addr}
def rEqDI : R2 := fun x y H Q => ∃ a b ks ls r, x = .ref a ∧ y = .ref b ∧ H a = some (.dK ks) ∧ H b = some (.dK ls) ∧
  (∀ p ∈ ks, ∃ i : Int, p.2 = .int i) ∧ (∀ p ∈ ls, ∃ i : Int, p.2 = .int i) ∧ r = (decide (ks.length = ls.length) && ks.all fun p => decide (valV ls p.1 = some p.2)) ∧ Q (.bl r) H
theorem int_rel {x : V} {v : Value} (h : ∃ i : Int, x = .int i) (r : RelV x v) : ∃ i t, x = .int i ∧ v = .int i t := by
  obtain ⟨i, rfl⟩ := h
  obtain ⟨t, rfl⟩ := r
  exact ⟨i, t, rfl, rfl⟩
theorem hits_int {A : Around} {s : Shared} {ls : List (L2.Key × V)} {vb : List (L2.Key × Value)} (rb : KV ls vb) (hb : ∀ p ∈ ls, ∃ i : Int, p.2 = .int i) : ∀ {ks : List (L2.Key × V)} {va : List (L2.Key × Value)}, KV ks va → (∀ p ∈ ks, ∃ i : Int, p.2 = .int i) →
    PySem.W.KeqHits A s vb va (ks.all fun p => decide (valV ls p.1 = some p.2)) := by
  intro ks va r
  unfold KV at r
  induction r with
  | nil => intro _; exact .nil
  | @cons p q ks va hr _ ih =>
    intro ha
    have i1 := ih fun x m => ha x (List.mem_cons_of_mem _ m)
    obtain ⟨k, v⟩ := q
    obtain ⟨ek, rv⟩ := hr
    dsimp only at ek rv
    subst ek
    obtain ⟨i, t, e1, e2⟩ := int_rel (ha p List.mem_cons_self) rv
    subst e2
    rw [List.all_cons]
    have z := KV.val rb p.1
    cases c : valV ls p.1 with
    | none =>
      rw [c] at z
      cases d : valueAt vb p.1 with
      | none =>
        rw [show decide ((none : Option V) = some p.2) = false from decide_eq_false (by simp), Bool.false_and]
        exact .miss d
      | some y => rw [d] at z; exact z.elim
    | some x =>
      rw [c] at z
      cases d : valueAt vb p.1 with
      | none => rw [d] at z; exact z.elim
      | some y =>
        rw [d] at z
        obtain ⟨k', hk', e⟩ : ∃ p' ∈ ls, p'.2 = x := by
          unfold valV at c
          obtain ⟨p', h1, h2⟩ := Option.map_eq_some_iff.mp c
          exact ⟨p', List.mem_of_find?_eq_some h1, h2⟩
        obtain ⟨j, t', f1, f2⟩ := int_rel (e ▸ hb k' hk') z
        subst f2
        have g : decide (some x = some p.2) = (i == j) := by
          rw [f1, e1]
          by_cases h : i = j
          · subst h; simp
          · have : ¬ j = i := fun z => h z.symm
            simp [h, this]
        rw [g]
        exact .hit d (SeqAt.EqAt.int_int i t j t') i1
theorem op_eqDI (hu : X.A.units < cLine) : OpR X (compareOp .Eq) rEqDI := by
  intro pins s σ H x y v u Q I rx ry h
  obtain ⟨a, b, ks, ls, r, rfl, rfl, ea, eb, ha, hb, rfl, q⟩ := h
  obtain rfl : v = Value.ref a := rx
  obtain rfl : u = Value.ref b := ry
  obtain ⟨_, ya, va, ra, da⟩ := (show ObjOk X.prog X.w H s.heap a (.dK ks) from I.hok a _ ea)
  obtain ⟨_, yb, vb, rb, db⟩ := (show ObjOk X.prog X.w H s.heap b (.dK ls) from I.hok b _ eb)
  have la : ks.length = va.length := ra.length
  have lb : ls.length = vb.length := rb.length
  refine PySem.W.keq_eq (knd := mixKind X.prog X.w) ya yb da db hu (fun _ => hits_int rb hb ra ha) (fin_bl I q ?_)
  rw [la, lb]
  congr 1
theorem ints_dk {H : Hp} : ∀ {kvs : List (L2.Key × V)} {d : List (Str × Int)}, All2 (DkR fS (kI (K := K)) H) kvs d → ∀ p ∈ kvs, ∃ i : Int, p.2 = .int i
  | _, _, .nil, p, m => by cases m
  | _, _, .cons z t, p, m => by
    rcases List.mem_cons.mp m with e | m
    · subst e; exact ⟨_, z.2⟩
    · exact ints_dk t p m
theorem all_dk {H : Hp} {ls : List (L2.Key × V)} {e : List (Str × Int)} (h : All2 (DkR fS (kI (K := K)) H) ls e) : ∀ {kvs : List (L2.Key × V)} {d : List (Str × Int)}, All2 (DkR fS (kI (K := K)) H) kvs d →
    (kvs.all fun p => decide (valV ls p.1 = some p.2)) = d.all fun p => decide (dg e p.1 = some p.2)
  | _, _, .nil => rfl
  | _, _, .cons (x := kv) (y := p) z t => by
    rw [List.all_cons, List.all_cons, all_dk h t]
    congr 1
    obtain ⟨e1, e2⟩ := dkR_val fS_inj h p.1
    have z1 : kv.1 = fS p.1 := z.1
    have z2 : kv.2 = .int p.2 := z.2
    rw [z1, z2]
    cases c : dg e p.1 with
    | none => rw [e2 c]; simp
    | some j =>
      obtain ⟨v, h1, h2⟩ := e1 j c
      have h2 : v = .int j := h2
      rw [h1, h2]
      by_cases q : j = p.2
      · subst q; simp
      · have : ¬ (V.int j = V.int p.2) := fun z => q (by cases z; rfl)
        simp [q, this]
theorem c_eqDI {d e : List (Str × Int)} (t : Take (dk fS (kI (K := K)) a d) L R) (g : Take (dk fS (kI (K := K)) b e) L R') (q : Ent L (Q (.bl (dqB d e)))) : Ent L fun H => rEqDI (.ref a) (.ref b) H Q := fun H h => by
  obtain ⟨ks, h1, h2⟩ := t.dk h
  obtain ⟨ls, g1, g2⟩ := g.dk h
  refine ⟨a, b, ks, ls, dqB d e, rfl, rfl, h1, g1, ints_dk h2, ints_dk g2, ?_, q H h⟩
  unfold dqB
  rw [all_dk g2 h2, h2.len, g2.len]
end
/-! ## sorted(d.items()), keys texts, values whole numbers -/
section
variable {X : Cx} {K : PySem.W.Frag}
theorem pairedAt {α β : Type} {F : α → β → Prop} : ∀ {l : List α} {m : List β}, Paired F l m → ∀ {j : Nat} {x : α} {y : β}, l[j]? = some x → m[j]? = some y → F x y
  | _, _, .cons h t, j, x, y, e1, e2 => by
    cases j with
    | zero => cases e1; cases e2; exact h
    | succ j => exact pairedAt t (j := j) (by simpa using e1) (by simpa using e2)
  | _, _, .nil, j, x, y, e1, _ => by simp at e1
theorem mix_str {P : Program} {w : World} {x : Str} {v : Value} (h : (mixKind P w).is (.inr x) v = true) : ∃ t, v = .str x t := by
  rw [mixKind_is] at h
  cases v <;> simp [keyIs, Value.isStrOf] at h
  exact ⟨_, by rw [h]⟩
def rItemsK : V → List V → Hp → VK → Prop := fun x xs H Q => ∃ (a : Addr) (kvs : List (L2.Key × V)), x = .ref a ∧ xs = [] ∧ H a = some (.dK kvs) ∧ ∀ p, H p = none → Q (.ref p) (L2.upd H p (DX.itemsO p a))
theorem mt_itemsK : MtR X "dict.items" rItemsK := by
  intro pins s σ H x xs v us Q I rx rxs h
  obtain ⟨a, kvs, rfl, rfl, ha, q⟩ := h
  cases rx
  cases rxs
  obtain ⟨_, hd, vs, _, da⟩ := dk_of I.hok ha
  obtain ⟨es, ep, ⟨o, ho, hx, hdat⟩, _⟩ := Heap.DictOf.raw da
  have np : H s.heap.objs.size = none := I.hok.fresh (Nat.le_refl _)
  exact DT.callItems (es := es) (ep := ep) hd ⟨o, ho, hx, hdat⟩ ⟨.ref s.heap.objs.size, L2.upd H s.heap.objs.size (DX.itemsO s.heap.objs.size a), I.laid (t' := s.toks) (fun b u e => Heap.get?_push_of_some _ e) (Nat.le_refl _) (DX.itemsO_ok (Heap.get?_push_size _ rfl)), rfl, q _ np⟩
/-- tuples that lie already are told of, and nothing else -/
theorem takeTs {pins : List (Addr × Obj)} {σ : L2.St} {H0 : Hp} {s : Shared} {h' : Heap} {tk : Nat} {T : Addr → List V → Prop} (I0 : Inv X pins σ H0 s) : ∀ (L : List Addr) (H1 : Hp), Inv X pins σ H1 { s with heap := h', toks := tk } → L.Nodup →
    (∀ a ∈ L, s.heap.objs.size ≤ a ∧ H1 a = none ∧ ∃ vs, T a vs ∧ ∀ H2, ObjOk X.prog X.w H2 h' a (.tup vs)) →
    ∃ H2, Inv X pins σ H2 { s with heap := h', toks := tk } ∧ (∀ b, b ∉ L → H2 b = H1 b) ∧ ∀ a ∈ L, ∃ vs, T a vs ∧ H2 a = some (.tup vs)
  | [], H1, I1, _, _ => ⟨H1, I1, fun _ _ => rfl, fun _ h => nomatch h⟩
  | a :: L, H1, I1, nd, h => by
    obtain ⟨big, na, vs, ht, ok⟩ := h a List.mem_cons_self
    obtain ⟨nm, nd2⟩ := List.nodup_cons.mp nd
    have I2 : Inv X pins σ (L2.upd H1 a (.tup vs)) { s with heap := h', toks := tk } := I1.take (h' := h') (t' := tk) (fun b ob _ e => e) (I0.fpOk big na) (ok _)
    obtain ⟨H2, I3, keep, got⟩ := takeTs I0 L _ I2 nd2 fun c m => by
      obtain ⟨c1, c2, c3⟩ := h c (List.mem_cons_of_mem _ m)
      exact ⟨c1, by rw [upd_ne (a := a) (b := c) (fun z => nm (by rw [← z]; exact m))]; exact c2, c3⟩
    refine ⟨H2, I3, fun b m => ?_, fun c m => ?_⟩
    · rw [keep b (fun z => m (List.mem_cons_of_mem _ z)), upd_ne (fun z => m (by rw [z]; exact List.mem_cons_self))]
    · rcases List.mem_cons.mp m with rfl | m
      · exact ⟨vs, ht, by rw [keep _ nm]; exact upd_same⟩
      · exact got c m
theorem eachAt {α β : Type} {R : α → β → Prop} : ∀ {l : List α} {m : List β}, l.length = m.length → (∀ (j : Nat) a b, l[j]? = some a → m[j]? = some b → R a b) → PySem.W.EachIs R l m
  | [], [], _, _ => .nil
  | a :: l, b :: m, e, h => .cons (h 0 a b rfl rfl) (eachAt (by simpa using e) fun j x y h1 h2 => h (j + 1) x y (by simpa using h1) (by simpa using h2))
  | [], _ :: _, e, _ => by simp at e
  | _ :: _, [], e, _ => by simp at e
def pSI (x : Str × Int) : L2.Key × V := (fS x.1, .int x.2)
def rSortIt (K : PySem.W.Frag) : List V → Hp → VK → Prop := fun vs H Q => ∃ (p a : Addr) (xs : List (Str × Int)), vs = [.ref p] ∧ H p = some (DX.itemsO p a) ∧ H a = some (.dK (xs.map pSI)) ∧ (∀ x ∈ xs, PyData.strOk x.1 = true) ∧ xs.length < 64 ∧
  ∀ (H2 : Hp) (us : List V) (l : Addr), (∀ b o, H b = some o → H2 b = some o) → (∀ b o, H2 b = some o → H b = none → Imm o = true) → All2 ((kSI (K := K)).P H2) us (srtD dSI xs) → H2 l = none → Q (.ref l) (L2.upd H2 l (.lst us))
theorem cr_sortIt (hc : X.calm = true) (hu : X.A.units + 64 < cLine) (hK : X.K = K := by rfl) : CallR X (.builtin "sorted") (rSortIt K) := by
  subst hK
  intro pins s σ H vs us Q I r h
  obtain ⟨p, a, xs, rfl, hp, ha, hok, h64, q⟩ := h
  obtain rfl := Vals.ref1 r
  have view : s.heap.IsItemsView p a := (show ObjOk X.prog X.w H s.heap p (DX.itemsO p a) from I.hok p _ hp).1
  obtain ⟨_, hd, ys, kv, da⟩ := dk_of I.hok ha
  obtain ⟨es, ep, ⟨o, ho, hx, hdat⟩, esz, ent⟩ := Heap.DictOf.raw da
  have l1 : xs.length = ys.length := by have := Paired.length kv; rw [List.length_map] at this; exact this
  refine DT.sortedI (es := es) (ep := ep) (I.ok.hd hc) view ⟨o, ho, hx, hdat⟩ (by rw [sizeLine_eq]; omega) fun h' tk as hk hlt hl hG => ?_
  have la : as.length = xs.length := by omega
  have nd : as.Nodup := hG.rise.imp fun h => Nat.ne_of_lt h
  -- what was made
  have made : ∀ (j : Nat) (b : Addr), as[j]? = some b → ∃ x t u, xs[j]? = some x ∧ h'.get? b = some { cls := .type "tuple", data := .seq #[Value.str x.1 t, Value.int x.2 u] } := by
    intro j b hj
    obtain ⟨e, he, hg⟩ := hG.pairs j b hj
    have lt : j < es.size := (Array.getElem?_eq_some_iff.mp he).1
    obtain rfl : es[j] = e := by rw [Array.getElem?_eq_getElem lt] at he; exact Option.some.inj he
    have lj : j < xs.length := by omega
    have lk : j < ys.length := by omega
    obtain ⟨e1, e2⟩ := ent j lt ys[j].1 ys[j].2 (List.getElem?_eq_getElem lk)
    have rel : (pSI xs[j]).1 = ys[j].1 ∧ RelV (pSI xs[j]).2 ys[j].2 := by
      exact pairedAt kv (j := j) (by rw [List.getElem?_map, List.getElem?_eq_getElem lj]; rfl) (List.getElem?_eq_getElem lk)
    obtain ⟨u, eu⟩ := rel.2
    have ek : ∃ t, (es[j]).key = Value.str xs[j].1 t := by
      rw [← rel.1] at e1
      exact mix_str e1
    obtain ⟨t, et⟩ := ek
    exact ⟨xs[j], t, u, List.getElem?_eq_getElem lj, by rw [hg, et, e2, eu]⟩
  have gl : (h'.push { cls := .type "list", data := .seq (as.map Value.ref).toArray }).get? h'.objs.size = some (seqObj "list" (as.map Value.ref).toArray 0) := Heap.get?_push_size _ rfl
  have k2 : ∀ b o, h'.get? b = some o → (h'.push { cls := .type "list", data := .seq (as.map Value.ref).toArray }).get? b = some o := fun b o e => Heap.get?_push_of_some _ e
  generalize h'.push { cls := .type "list", data := .seq (as.map Value.ref).toArray } = h2 at gl k2 ⊢
  have ne : ∀ b o, h'.get? b = some o → b ≠ h'.objs.size := fun b o e => Nat.ne_of_lt (Heap.lt_size e)
  have each : PySem.W.EachIs (fun v x => ∃ b, v = Value.ref b ∧ b ∈ as ∧ ∃ t u, h'.get? b = some { cls := .type "tuple", data := .seq #[Value.str x.1 t, Value.int x.2 u] }) (as.map Value.ref) xs := by
    refine eachAt (by rw [List.length_map, la]) fun j v x e1 e2 => ?_
    rw [List.getElem?_map] at e1
    obtain ⟨b, hb, rfl⟩ := Option.map_eq_some_iff.mp e1
    obtain ⟨y, t, u, ey, g⟩ := made j b hb
    obtain rfl : y = x := Option.some.inj (ey.symm.trans e2)
    exact ⟨b, rfl, List.mem_of_getElem? hb, t, u, g⟩
  refine PySem.W.list_sort_data (enc := dSI) (bs := xs) (s := { s with heap := h2, toks := tk }) gl each (each.mono fun v x ⟨b, e, _, t, u, g⟩ => ⟨_, e ▸ Reads.tuple (k2 _ _ g) rfl rfl (ReadsAll.cons (Reads.str x.1 t) (ReadsAll.cons (Reads.int x.2 u) ReadsAll.nil)), by simp⟩) (PySem.W.AllAlike.of (ElS.al (E := kSI (K := X.K)))) (PySem.W.Sortable.tuples fun x => ⟨_, _, rfl⟩) (by rw [sizeLine_eq]; omega) (fun x _ => ?_) fun out lo eo => ?_
  · simp only [dSI, PyData.depth, PyData.depthAll, units_in1]
    omega
  · have kF : ∀ b o, b ≠ h'.objs.size → h2.get? b = some o → (sortedHeap h2 h'.objs.size (as.map Value.ref) (List.toArray out)).get? b = some o := fun b o hb e => (PyProof.Rows.sortedHeap_old hb (Heap.lt_size e)).trans e
    have kS : ∀ b o, s.heap.get? b = some o → (sortedHeap h2 h'.objs.size (as.map Value.ref) (List.toArray out)).get? b = some o := fun b o e => kF b o (ne _ _ (hk b o e)) (k2 _ _ (hk b o e))
    obtain ⟨cF, gF⟩ := PyProof.Rows.sortedHeap_at (vs := as.map Value.ref) (out := List.toArray out) gl
    have I1 : Inv X pins σ H { s with heap := sortedHeap h2 h'.objs.size (as.map Value.ref) (List.toArray out), toks := tk } := I.kept (t' := tk) kS
    have nl : H h'.objs.size = none := I.hok.fresh (Nat.le_of_lt hlt)
    obtain ⟨H2, I2, keep, got⟩ := takeTs (T := fun b vs => ∃ (x : Str × Int) (t u : Tok), x ∈ xs ∧ vs = [.str x.1, .int x.2] ∧ h'.get? b = some { cls := .type "tuple", data := .seq #[Value.str x.1 t, Value.int x.2 u] }) I as H I1 nd fun b m => by
      obtain ⟨j, hj⟩ := List.mem_iff_getElem?.mp m
      obtain ⟨x, t, u, ex, g⟩ := made j b hj
      have big : s.heap.objs.size ≤ b := Nat.le_of_lt (hG.above b m)
      refine ⟨big, I.hok.fresh big, [.str x.1, .int x.2], ⟨x, t, u, List.mem_of_getElem? ex, rfl, g⟩, fun H3 => ⟨(by rw [sizeLine_eq]; show 2 ≤ 16777216; omega), [Value.str x.1 t, Value.int x.2 u], .cons ⟨t, rfl⟩ (.cons ⟨u, rfl⟩ .nil), ⟨_, kF _ _ (ne _ _ g) (k2 _ _ g), rfl, 0, rfl⟩⟩⟩
    have na : ∀ b ∈ as, H b = none := fun b m => I.hok.fresh (Nat.le_of_lt (hG.above b m))
    have nl2 : h'.objs.size ∉ as := fun m => Nat.lt_irrefl _ (DT.Made.there hG m)
    have nl3 : H2 h'.objs.size = none := by rw [keep _ nl2]; exact nl
    have items : ∃ us, Vals us out ∧ All2 ((kSI (K := X.K)).P H2) us (srtD dSI xs) := by
      refine of_each (E := kSI (K := X.K)) (eo.mono fun v x ⟨b, e, m, t, u, g⟩ => ?_)
      obtain ⟨vs, ⟨y, t', u', my, ev, g'⟩, hb⟩ := got b m
      rw [g] at g'
      injection Option.some.inj g' with _ _ gd
      injection gd with gs _
      injection gs with gs
      injection gs with ga gs
      injection gs with gb _
      injection ga with ga _
      injection gb with gb _
      subst e ev
      refine ⟨.ref b, rfl, b, _, rfl, hb, .str y.1, [.int y.2], rfl, ⟨by rw [ga], ?_⟩, .int y.2, rfl, by rw [gb]; rfl⟩
      rw [ga]
      exact hok y my
    obtain ⟨us, rv, all⟩ := items
    have lu : us.length ≤ sizeLine := by rw [all.len, srtD_len, sizeLine_eq]; omega
    have I3 : Inv X pins σ (L2.upd H2 h'.objs.size (.lst us)) { s with heap := sortedHeap h2 h'.objs.size (as.map Value.ref) (List.toArray out), toks := tk } :=
      I2.take (h' := sortedHeap h2 h'.objs.size (as.map Value.ref) (List.toArray out)) (t' := tk) (fun b ob _ e => e) (I.fpOk (Nat.le_of_lt hlt) nl3) ⟨lu, out, cF, rv, gF⟩
    refine ⟨.ref h'.objs.size, _, I3, rfl, q H2 us _ (fun b o e => ?_) (fun b o e n => ?_) all nl3⟩
    · rw [keep b fun m => by rw [na b m] at e; cases e]; exact e
    · by_cases m : b ∈ as
      · obtain ⟨vs, _, hb⟩ := got b m
        rw [hb] at e
        obtain rfl := Option.some.inj e
        rfl
      · rw [keep b m, n] at e
        cases e
end
section
variable {P : Program} {w : World} {K : PySem.W.Frag} {L R R' : List HA} {Q : VK} {a l p : Addr}
def pms (ns : List Str) (k : List Str → Prop) : Prop := ns.length < 64 ∧ ∀ ys, ys.Nodup → (∀ x, x ∈ ys ↔ x ∈ ns) → k ys
theorem txs_of {H : Hp} : ∀ {vs : List V} {ns : List Str}, All2 ((kSt (K := K)).P H) vs ns → vs = ns.map V.str
  | _, _, .nil => rfl
  | _, _, .cons h t => by rw [List.map_cons, ← txs_of t, h.1]
theorem c_setTx {ns : List Str} {k : List Str → Prop} (hm : pms ns k) (t : Take (ls (kSt (K := K)) l ns) L R) (q : (∀ ys : List Str, ys.Nodup → (∀ x, x ∈ ys ↔ x ∈ ns) → k ys) → ∀ p c, c < 64 → Ent (pt p (SetTx P w p ns c) :: L) (Q (.ref p))) : Ent L fun H => rSetTx P w K [.ref l] H Q := fun H h => by
  obtain ⟨vs, h1, h2⟩ := t.ls h
  obtain rfl := txs_of h2
  exact ⟨l, ns, rfl, SqL.of h1, by unfold scanBound; have := hm.1; omega, fun p c np hc => q hm.2 p c (by have := hm.1; omega) _ (h.new np rfl)⟩
theorem c_sortTx {ns : List Str} {k : List Str → Prop} {c : Nat} (hm : ∀ ys : List Str, ys.Nodup → (∀ x, x ∈ ys ↔ x ∈ ns) → k ys) (h64 : c < 64) (t : Take (pt a (SetTx P w a ns c)) L R) (q : ∀ ys, k ys → ∀ p, Ent (ls (kS (K := K)) p ys :: L) (Q (.ref p))) : Ent L fun H => rSortTx P w [.ref a] H Q := fun H h =>
  ⟨a, ns, c, rfl, t.pt h, h64, fun ys p nd mem np => q ys (hm ys nd mem) p _ (h.ls_new np (All2.map V.str fun _ _ => rfl))⟩
theorem c_sortSI {xs : List (Str × Int)} {k : Prop} (hm : grd (xs.length ≤ 100000) k) (t : Take (ls (kSI (K := K)) l xs) L R) (q : k → ∀ p, Ent (ls (kSI (K := K)) p (srtD dSI xs) :: L) (Q (.ref p))) : Ent L fun H => rSortD (kSI (K := K)) [.ref l] H Q := c_sortD hm t q
theorem e_itemsK {d : List (Str × Int)} (t : Take (dk fS (kI (K := K)) a d) L R) (q : ∀ p, Ent (pt p (DX.itemsO p a) :: L) (Q (.ref p))) : Ent L fun H => rItemsK (.ref a) [] H Q := fun H h => by
  obtain ⟨kvs, h1, h2⟩ := t.dk h
  exact ⟨a, kvs, rfl, rfl, h1, fun p np => q p _ (h.new np rfl)⟩
theorem pSI_of {H : Hp} : ∀ {kvs : List (L2.Key × V)} {d : List (Str × Int)}, All2 (DkR fS (kI (K := K)) H) kvs d → kvs = d.map pSI
  | _, _, .nil => rfl
  | _, _, .cons (x := kv) (y := x) z t => by
    rw [List.map_cons, ← pSI_of t]
    congr 1
    exact Prod.ext z.1 z.2
theorem c_sortIt {d : List (Str × Int)} {k : Prop} (hm : grd (d.length < 64 ∧ ∀ x ∈ d, PyData.strOk x.1 = true) k) (t : Take (pt p (DX.itemsO p a)) L R) (g : Take (dk fS (kI (K := K)) a d) L R') (q : k → ∀ l, Ent (ls (kSI (K := K)) l (srtD dSI d) :: L) (Q (.ref l))) : Ent L fun H => rSortIt K [.ref p] H Q := fun H h => by
  obtain ⟨kvs, h1, h2⟩ := g.dk h
  obtain rfl := pSI_of h2
  exact ⟨p, a, d, rfl, t.pt h, h1, hm.1.2, hm.1.1, fun H2 us l gr _ all nl => q hm.2 l _ ((h.same gr).ls_new nl all)⟩
end
/-! ## an instance made in a try; what is caught has a name -/
section
variable {X : Cx} {CX : CXT} {C f : Addr} {k : Nat} {fd : FuncData} {ps : List Str} {sp : Sp} {E : L2.St → XK} {x : Str} {p pos : Pos} {e : Expr} {es : List Expr} {t : TA}
def tMakeS (C : Addr) (sp : Sp) (E : L2.St → XK) (t : TA) : TE := fun σ H Q => t σ H (kMake C sp (E σ) Q)
theorem run_makeS {pins : List (Addr × Obj)} {σ : L2.St} {H : Hp} {s : Shared} {Q : VK} {us : List Value} {vs : List V} (M : Mk X.K C f) (F : FnOk X.prog X.w X.K X.mg X.base CX k f fd ps sp) (hr : Room (k + 1) X.A) (hb : Binds X.K fd ps []) (hx : PassesAt CX X σ (E σ))
    (I : Inv X pins σ H s) (r : Vals vs us) (h : kMake C sp (E σ) Q vs H) : wpAny (model X.prog X.w) X.A (call (.ref C) us) (EP X pins σ Q) X.xe s := by
  have hq := h (s.heap.objs.size + 1) s.heap.objs.size (I.hok.fresh (Nat.le_succ _)) (I.hok.fresh (Nat.le_refl _)) (Nat.ne_of_lt (Nat.lt_succ_self _))
  have J := Inv.made (C := C) I
  have r2 : Vals (V.ref (s.heap.objs.size + 1) :: vs) (Value.ref (s.heap.objs.size + 1) :: us) := .cons rfl r
  have len : (Value.ref (s.heap.objs.size + 1) :: us ++ []).length = ps.length := by
    rw [List.append_nil, ← r2.length]
    exact F.len _ _ _ _ hq
  have hb2 := hb _ (Value.ref (s.heap.objs.size + 1) :: us) J.kIn len
  rw [List.append_nil] at hb2
  refine wpAny_call (make_map (f := f) I.kIn M.makes M.init (beq_iff_eq.mp M.fn) (codeAny_mono (F.run _ X.stack _ _ ⟨Value.ref (s.heap.objs.size + 1) :: us, []⟩ (Value.ref (s.heap.objs.size + 1) :: us) _ _ (E σ) (hr.make C us []) (J.env0.make C us []) hb2 r2 hq) fun r s' z => ?_))
  match r, z with
  | .error e, z => exact hx pins _ _ e s' J z
  | .ok (.ret u), z =>
    obtain ⟨v, H', I3, rv, ev, q3⟩ := J.after z
    subst ev
    exact ⟨rv, ⟨V.ref (s.heap.objs.size + 1), H', I3, rfl, q3⟩⟩
  | .ok .next, z => exact z.elim
  | .ok .brk, z => exact z.elim
  | .ok .cont, z => exact z.elim
theorem pe_makeS (M : Mk X.K C f) (F : FnOk X.prog X.w X.K X.mg X.base CX k f fd ps sp) (hr : Room (k + 1) X.A) (hg : Gl X x) (hm : X.mg x = some (.ref C)) (hb : Binds X.K fd ps []) (hx : ∀ σ, PassesAt CX X σ (E σ)) (ha : PA X (e :: es) t)
    (hdb : (x == ("__debug__" : Str)) = false := by decide) (he : starEach (e :: es) X.env = (false, eval e X.env) :: starEach es X.env := by rfl) (hpl : (backTo pos (starEach es X.env)).any (·.1) = false := by rfl) :
    PE X (.Call (.Name x p) (e :: es) [] pos) (tMakeS C sp E t) := by
  refine ⟨fun pins s σ H Q I h => ?_⟩
  refine wpAny_Call_Name_kw (ld_glob I hg hm ?_ hdb)
  refine PySem.W.callWith_K (h₀ := X.base) I.ok.mod.kin M.kp (thn (ha.run pos pins s σ H _ I h) fun us s1 ⟨vs, H1, I1, r, q⟩ => ⟨I1.kIn, ?_⟩) he hpl
  exact run_makeS M F hr hb (hx σ) I1 r q
end
section
variable {K : PySem.W.Frag} {L R : List HA} {Q : VK} {σ : L2.St} {H : Hp} {ta : TA} {sp : Sp} {E : L2.St → XK}
theorem e_makeS {C : Addr} (q : Ent L fun H => ta σ H (kMake C sp (E σ) Q)) : Ent L fun H => tMakeS C sp E ta σ H Q := q
theorem e_as {c cls : Value} {i : Nat} {ts : Addr → Value → Option Addr → TS} {Wout : WX} {D : Ends} {d : Option Addr} (h : PySem.W.exmOne K cls c = some true)
    (q : ∀ a, Ent L fun H => ts a cls d { nx := fun σ' H' => D.nx (σ'.set i none) H', rt := D.rt, bk := fun σ' H' => D.bk (σ'.set i none) H', ct := fun σ' H' => D.ct (σ'.set i none) H' } (σ.set i (some (.ref a))) H) : Ent L fun H => WE (wAs K c i ts Wout D) σ cls d H := fun H z => ⟨true, h, fun _ a _ => q a H z, fun y => by cases y⟩
theorem e_xf {a dd C : Addr} {fs : List (Str × V)} {f : Str} {v : V} {i : Nat} (t : Take (im dd (.xd fs)) L R) (hl : fs.lookup f = some v) (hs : σ[i]? = some (some (.ref a))) (q : Ent L (Q v)) : Ent L fun H => tXf a (.ref C) (some dd) C f (tVar i) σ H Q := fun H h => ⟨.ref a, hs, rfl, rfl, dd, fs, v, rfl, t.im h, hl, q H h⟩
end
/-- tuple(a tuple) -/
theorem c_tupTu {K : PySem.W.Frag} {α : Type} {Es : Els K α} {x : α} {v : V} {L R : List HA} {Q : VK} (t : Take (vl (kTup Es) v x) L R) (q : Ent L (Q v)) : Ent L fun H => rTupK K [v] H Q := fun H h => by
  obtain ⟨a, us, rfl, ht, _⟩ := t.vl h
  exact ⟨a, us, rfl, .inr ⟨SqT.of ht, q H h⟩⟩
/-! ## for x in a written dict of the top -/
section
variable {P : Program} {w : World} {K : PySem.W.Frag} {tg : Expr} {d it : Addr} {T : List (Str × V)} {es : Array DictEntry} {n : Nat}
theorem ktab_at (k : KTab K w d T) (D : KDict K w d es n) (hp : PairsT es.toList T) {h : Heap} (X : K.In h) : (d == sysModules) = false ∧ es.size = T.length ∧ (∃ o, h.get? d = some o ∧ o.ExactDict ∧ o.data = .dict es n) ∧ ∃ vs, KV (T.map fun p => ((Sum.inr p.1 : L2.Key), p.2)) vs ∧ h.DictAt (mixKind P w) d vs n := by
  obtain ⟨vs, h1, h2, h3⟩ := pairsT_kvs (P := P) (w := w) hp
  have sz : es.size = T.length := by
    have l1 := h2.length
    have l2 := congrArg List.length h3
    rw [List.length_map, List.length_map] at l2
    rw [← Array.length_toList]; omega
  refine ⟨D.low, sz, ⟨_, X _ _ D.at_, ⟨rfl, rfl, rfl⟩, rfl⟩, vs, h1, _, es, X _ _ D.at_, ⟨rfl, rfl, rfl⟩, rfl, fun e he => ?_, h2, ?_⟩
  · obtain ⟨x, t, e1, e2⟩ := D.lit.all e (Array.mem_toList_iff.mpr he)
    refine ⟨Sum.inr x, ?_, by rw [e2]; rfl⟩
    show keyIs (Sum.inr x) e.key = true
    rw [e1]
    exact keyIs_str x t
  · rw [h3, show (T.map fun p => (Sum.inr p.1 : L2.Key)) = (T.map (·.1)).map Sum.inr by rw [List.map_map]; rfl]
    exact k.nd.map _ fun a b m z => m (Sum.inr.inj z)
def ItKT (T : List (Str × V)) : It := ⟨fun i _ => i < T.length, fun i H x H' => H' = H ∧ ∃ p, T[i]? = some p ∧ x = .str p.1, fun i _ => T.length ≤ i⟩
theorem turn_KT (k : KTab K w d T) (D : KDict K w d es n) (hp : PairsT es.toList T) : Turn P w K tg (ItKT T) [it] it (fun i h => h.IsKeyIter it d i T.length n) where
  mem := by simp
  obj := fun i h st b m => by
    obtain rfl : b = it := by simpa using m
    obtain ⟨o, e, c, z⟩ := st
    exact ⟨o, e, fun v y => by rw [z] at y; cases y⟩
  keep := fun i h h' st y => st.at fun o e => y it (by simp) o e
  item := by
    intro X hP hw hK hc i pins s σ H E I hf st lt
    subst hP hw hK
    obtain ⟨f0, f1, f2, f3, f4, f5⟩ := hf it (by simp)
    obtain ⟨_, _, _, vs, kv, at_⟩ := ktab_at (P := X.prog) k D hp I.kIn
    have lt : i < T.length := lt
    have lv : T.length = vs.length := by have := Paired.length kv; rw [List.length_map] at this; exact this
    have lj : i < vs.length := by omega
    have rel := pairedAt kv (j := i) (x := (Sum.inr T[i].1, T[i].2)) (by rw [List.getElem?_map, List.getElem?_eq_getElem lt]; rfl) (List.getElem?_eq_getElem lj)
    rw [lv] at st
    refine wpAny_pyNext_dict_item (k := vs[i].1) (v := vs[i].2) st at_ (List.getElem?_eq_getElem lj) fun key h' is st' sb => ?_
    have J : Inv X pins σ H { s with heap := h' } := I.turned (t' := s.toks) (fun b ob m e => (sb.2 b m).trans e) f0 f1 f3 f4 f5
    obtain ⟨o, e, c, z⟩ := id st'
    rw [← rel.1] at is
    refine ⟨key, rfl, go_of (s := { s with heap := h' }) e c z (by decide) ⟨.str T[i].1, H, J, relV_key (k := Sum.inr T[i].1) is, ⟨rfl, T[i], List.getElem?_eq_getElem lt, rfl⟩, ?_, fun b m => (hf b m).1⟩⟩
    show h'.IsKeyIter it d (i + 1) T.length n
    rw [lv]
    exact st'
  done := by
    intro X hP hw hK hc i pins s σ H E I hf st le
    subst hP hw hK
    obtain ⟨f0, f1, f2, f3, f4, f5⟩ := hf it (by simp)
    obtain ⟨_, sz, ⟨o, g, _, z⟩, _⟩ := ktab_at (P := X.prog) k D hp I.kIn
    exact next_key_end (I.ok.hd hc) st g z sz le fun h' eb => ⟨rfl, I.turned (t' := s.toks) (fun b ob m e => eb b ob m e) f0 f1 f3 f4 f5⟩
  self := fun A i s Q E st h => wpAny_pyIter_keyiter st h
def iKeysT (K : PySem.W.Frag) (w : World) (td : TE) : TI := fun σ H R => td σ H fun x H1 => ∃ d T, x = .ref d ∧ KTab K w d T ∧ R (ItKT T) H1
theorem pi_keysT {X : Cx} {e : Expr} {td : TE} (he : PE X e td) (hK : X.K = K := by rfl) (hw : X.w = w := by rfl) : PI X tg e (iKeysT K w td) := by
  subst hK hw
  refine ⟨fun pins s σ H R I h => ?_⟩
  refine thn (he.run pins s σ H _ I h) fun u s1 ⟨x, H1, I1, rx, d, T, ex, k, q⟩ => ?_
  subst ex
  obtain rfl : u = Value.ref d := rx
  obtain ⟨es, n, D, hp⟩ := k.ex
  obtain ⟨lo, sz, ⟨o, g, gx, z⟩, _⟩ := ktab_at (P := X.prog) k D hp I1.kIn
  refine iter_keys lo g gx z (pi_one (tk := s1.toks) I1 _ (turn_KT k D hp) ⟨_, Heap.get?_push_size _ rfl, rfl, ?_⟩ q)
  rw [sz]; rfl
end
section
variable {K : PySem.W.Frag} {w : World} {α β : Type} {L : List HA} {Q : VK} {σ : L2.St} {ta te : TE} {d : Addr}
def kLcKD (K : PySem.W.Frag) (w : World) (g : TG) (tt : TT) (te : TE) (vs : List Nat) (σ : L2.St) (Q : VK) (x : V) (H : Hp) : Prop := tLc (iKeysT K w (tC x)) g tt te vs σ H Q
theorem e_lcKD0 {g : TG} {tt : TT} {vs : List Nat} (q : Ent L fun H => ta σ H fun x H1 => kLcKD K w g tt te vs σ Q x H1) : Ent L fun H => tLc (iKeysT K w ta) g tt te vs σ H Q := q
theorem walk_KT {T : List (Str × V)} {ns : List Str} (e : T.map (·.1) = ns) (hs : (ns.all fun x => PyData.strOk x) = true) : Walk (ItKT T) ns.length (fun _ => True) (fun i H x H' => H' = H ∧ ∃ e, ns[i]? = some e ∧ (kSt (K := K)).P H x e) := by
  have l : T.length = ns.length := by rw [← e, List.length_map]
  refine ⟨fun i H hi _ => (show i < T.length by omega), fun H _ => (show T.length ≤ ns.length by omega), fun i H x H' hi _ ⟨y, p, hp, ex⟩ => ⟨y, p.1, ?_, ex, ?_⟩⟩
  · rw [← e, List.getElem?_map, hp]; rfl
  · rw [List.all_eq_true] at hs
    exact hs _ (by rw [← e]; exact List.mem_map.mpr ⟨p, List.mem_of_getElem? hp, rfl⟩)
theorem c_lcKD {T : List (Str × V)} {ns : List Str} {bd : Str → (Option β → Prop) → Prop} {k : List β → Prop} {g : TG} {tt : TT} {vs : List Nat} (E' : El K β) (hm : grd (ns.length ≤ 100000) (lcL ns [] bd k)) (t : KTab K w d T) (e : T.map (·.1) = ns) (hs : (ns.all fun x => PyData.strOk x) = true)
    (step : ∀ x (nxt : Option β → Prop), bd x nxt → ∀ v D ys (r : VK) (s : Hp → Prop), (∀ v' y, nxt (some y) → Ent (vl E' v' y :: ls E' D ys :: L) (r v')) → (nxt none → Ent (ls E' D ys :: L) s) → Ent (vl (kSt (K := K)) v x :: ls E' D ys :: L) fun H => g v (wipe σ vs) H fun σ2 H2 => wipe σ2 vs = wipe σ vs ∧ tt σ2 H2 fun b H3 => if b = true then te σ2 H3 r else s H3)
    (q : ∀ ys, k ys → ∀ D, Ent (ls E' D ys :: L) (Q (.ref D))) : Ent L fun H => kLcKD K w g tt te vs σ Q (.ref d) H := fun H h =>
  ⟨d, T, rfl, t, lcSq_core E' (walk_KT e hs) (fun _ _ => trivial) hm step q h⟩
theorem c_lcKQ {D : List (Str × α)} {vals : α → List V} {bd : Str → (Option β → Prop) → Prop} {k : List β → Prop} {g : TG} {tt : TT} {vs : List Nat} (E' : El K β) (hm : grd ((D.map (·.1)).length ≤ 100000) (lcL (D.map (·.1)) [] bd k)) (t : KTabQ K w vals d D) (hs : ((D.map (·.1)).all fun x => PyData.strOk x) = true)
    (step : ∀ x (nxt : Option β → Prop), bd x nxt → ∀ v D ys (r : VK) (s : Hp → Prop), (∀ v' y, nxt (some y) → Ent (vl E' v' y :: ls E' D ys :: L) (r v')) → (nxt none → Ent (ls E' D ys :: L) s) → Ent (vl (kSt (K := K)) v x :: ls E' D ys :: L) fun H => g v (wipe σ vs) H fun σ2 H2 => wipe σ2 vs = wipe σ vs ∧ tt σ2 H2 fun b H3 => if b = true then te σ2 H3 r else s H3)
    (q : ∀ ys, k ys → ∀ D, Ent (ls E' D ys :: L) (Q (.ref D))) : Ent L fun H => kLcKD K w g tt te vs σ Q (.ref d) H := by
  obtain ⟨T, hT, al⟩ := t.ex
  refine c_lcKD E' hm hT ?_ hs step q
  clear step q hm hT hs t
  induction al with
  | nil => rfl
  | cons h _ ih => rw [List.map_cons, List.map_cons, h.1, ih]
end
theorem e_tyDk {K : PySem.W.Frag} {κ α : Type} {f : κ → L2.Key} {E : El K α} {a : Addr} {d : List (κ × α)} {L R : List HA} {φ : Hp → Prop} (t : Take (dk f E a d) L R) (q : Ent L φ) : Ent L fun H => tyV K "dict" (.ref a) H ∧ φ H := fun H h => by
  obtain ⟨kvs, h1, _⟩ := t.dk h
  exact ⟨.inr (.inr (.inl ⟨rfl, .inl ⟨kvs, h1⟩⟩)), q H h⟩
end Toy

open PySem L2 Toy in
local macro_rules | `(tactic| walk_at "whl") => `(tactic| first | (with_reducible assumption) | exact upd_same | (refine' (upd_ne ?h1).trans ?h2; (case h1 => walk_at "ne"); (case h2 => walk_at "whl")) | (refine' (show Same _ _ by (with_reducible assumption)) _ _ ?h1; (case h1 => walk_at "whl")) | (refine' (show Chg _ _ _ by (with_reducible assumption)) _ _ ?h1 ?h2; (case h1 => walk_at "whl"); (case h2 => walk_at "ne")))
open PySem L2 Toy in
local macro_rules | `(tactic| walk_at "ne") => `(tactic| first | (with_reducible assumption) | (apply Ne.symm; (with_reducible assumption)) | (refine' ne_of_none ?h1 ?h2; (case h2 => (with_reducible assumption)); (case h1 => walk_at "whl")) | (apply Ne.symm; refine' ne_of_none ?h1 ?h2; (case h2 => (with_reducible assumption)); (case h1 => walk_at "whl")) | (refine' ne_of ?h1 ?h2 ?h3; (case h1 => walk_at "whl"); (case h2 => walk_at "whl"); (case h3 => intro z; cases z)))
open PySem L2 Toy in
local macro_rules | `(tactic| walk_at "wsq") => `(tactic| first | (with_reducible assumption) | (refine' SqL.of ?h1; (case h1 => walk_at "whl")) | (refine' SqT.of ?h1; (case h1 => walk_at "whl")) | exact Same.seq (by (with_reducible assumption)) (by (with_reducible assumption)) | exact same_seqT (by (with_reducible assumption)) (by (with_reducible assumption)))
open PySem L2 Toy in
local macro_rules | `(tactic| walk_at "si") => `(tactic| first | omega | (with_reducible assumption) | decide | (refine ⟨?_, ?_⟩ <;> omega) | exact Or.inl ⟨by omega, by omega⟩ | exact Or.inr ⟨by omega, by omega⟩ | exact ⟨by omega, by omega, by omega⟩ | exact ⟨by decide, by decide, by decide⟩)
open PySem L2 Toy in
local macro_rules | `(tactic| walk_at "wst") => `(tactic| first
  | with_reducible first
    | refine w_seq ?_ | refine w_c ?_ | refine w_op ?_ | refine w_un ?_ | refine w_I0 ?_ | refine w_U ?_ | refine w_cb ?_ | refine w_cons ?_ | refine w_nil ?_ | refine w_call ?_ | refine w_tup ?_ | refine w_lst ?_
    | refine w_asg ?_ | refine w_gname ?_ | refine w_ret ?_ | refine w_drop ?_ | refine w_ifs ?_ | refine w_if0 ?_ | refine w_test ?_ | refine w_B ?_ | refine w_not ?_ | refine w_andV ?_ | refine w_orV ?_ | refine w_notV ?_ | refine w_bl ?_
    | refine w_next ?_ | refine w_brk ?_ | refine w_cont ?_ | refine w_retN ?_ | refine w_fld0 ?_ | refine w_sfld0 ?_ | refine w_meth0 ?_ | refine w_prop0 ?_ | refine w_make ?_ | refine w_par ?_ | refine w_vw ?_ | refine w_gsub ?_ | refine w_gcons ?_ | refine w_gnil ?_
    | refine w_iI ?_ | refine w_iIJ ?_ | refine w_int1 ?_ | refine iteT ?_ | refine iteF ?_ | refine w_methSx0 ?_ | refine w_methN0 ?_ | refine w_callN ?_ | refine w_callS ?_ | refine w_yes ?_ | refine w_mko0 ?_ | refine w_makeK ?_ | refine w_chain ?_ | refine w_sl ?_ | refine w_nopart ?_ | refine w_part ?_ | refine w_ei ?_ | refine w_rev0 ?_ | refine w_forZ ?_ | refine w_forE ?_ | refine w_lcZ ?_ | refine w_lcE ?_ | refine w_bm ?_ | refine w_bm0 ?_ | refine w_forR1 ?_ | refine w_forL ?_ | refine w_forT ?_ | refine iteNT ?_ | refine iteNF ?_ | refine w_lstRg ?_ | refine w_tupRg ?_ | refine w_rg1 ?_ | refine w_rg2 ?_ | refine w_eij ?_
  | ((with_reducible refine' w_var ?h ?_); (case h => rfl))
  | ((with_reducible refine' w_I ?h ?_); (case h => walk_at "si"))
  | ((with_reducible refine' w_ixL ?h ?g ?_); (case h => walk_at "wsq"); (case g => first | rfl | (with_reducible assumption)))
  | ((with_reducible refine' w_ixT ?h ?g ?_); (case h => walk_at "wsq"); (case g => first | rfl | (with_reducible assumption)))
  | ((with_reducible refine' w_setL ?h ?g ?_); (case h => walk_at "whl"); (case g => first | rfl | (with_reducible assumption)))
  | ((with_reducible refine' w_gtup ?h ?g ?_); (case h => walk_at "wsq"); (case g => rfl))
  | ((with_reducible refine' w_lenL ?h ?_); (case h => walk_at "wsq"))
  | ((with_reducible refine' w_lenT ?h ?_); (case h => walk_at "wsq"))
  | ((with_reducible refine' w_eq ?h ?_); (case h => rfl))
  | ((with_reducible refine' w_ne ?h ?_); (case h => rfl))
  | ((with_reducible refine' w_ea ?h ?_); (case h => rfl))
  | ((with_reducible refine' w_ln ?h ?_); (case h => rfl))
  | ((with_reducible refine' w_fld ?h ?c ?n ?l ?_); (case h => walk_at "whl"); (case c => walk_at "cls"); (case n => walk_at "nat"); (case l => rfl))
  | ((with_reducible refine' w_sfld ?h ?c ?n ?l ?e ?_); (case h => walk_at "whl"); (case c => walk_at "cls"); (case n => walk_at "nat"); (case l => exact Nat.le_of_ble_eq_true rfl); (case e => rfl))
  | ((with_reducible refine' w_meth ?h ?l ?_); (case h => walk_at "whl"); (case l => rfl))
  | ((with_reducible refine' w_prop ?h ?_); (case h => walk_at "whl"))
  | ((with_reducible refine' w_tyL ?h ?_); (case h => walk_at "wsq"))
  | ((with_reducible refine' w_app ?h ?z ?_); (case h => walk_at "whl"); (case z => first | omega | (simp; omega) | simp))
  | ((with_reducible refine' w_cat ?h ?g ?z ?_); (case h => walk_at "whl"); (case g => walk_at "whl"); (case z => first | omega | (simp; omega) | simp))
  | ((with_reducible refine' w_zip ?h ?g ?_); (case h => walk_at "wsq"); (case g => walk_at "wsq"))
  | ((with_reducible refine' w_enum ?h ?_); (case h => walk_at "wsq"))
  | ((with_reducible refine' w_slL ?h ?_); (case h => walk_at "wsq"))
  | ((with_reducible refine' w_rev ?h ?_); (case h => walk_at "wsq"))
  | ((with_reducible refine' w_rep ?h ?a ?b ?z ?_); (case h => walk_at "whl"); (case a => omega); (case b => omega); (case z => first | omega | exact Nat.le_of_ble_eq_true rfl | (simp; omega)))
  | ((with_reducible refine' w_rgok ?h ?_); (case h => omega))
  | ((with_reducible refine' w_laid ?h ?_); (case h => simp)))
open PySem L2 Toy in
local macro_rules | `(tactic| walk_at "frOld") => `(tactic| with_reducible first | exact take_here | exact (take_there take_here) | exact (take_there (take_there take_here)) | exact (take_there (take_there (take_there take_here))) | exact (take_there (take_there (take_there (take_there take_here)))) | exact (take_there (take_there (take_there (take_there (take_there take_here))))) | exact (take_there (take_there (take_there (take_there (take_there (take_there take_here)))))) | exact (take_there (take_there (take_there (take_there (take_there (take_there (take_there take_here))))))) | exact (take_there (take_there (take_there (take_there (take_there (take_there (take_there (take_there take_here)))))))) | exact (take_there (take_there (take_there (take_there (take_there (take_there (take_there (take_there (take_there take_here))))))))) | exact (take_there (take_there (take_there (take_there (take_there (take_there (take_there (take_there (take_there (take_there take_here)))))))))) | exact (take_there (take_there (take_there (take_there (take_there (take_there (take_there (take_there (take_there (take_there (take_there take_here))))))))))) | exact (take_there (take_there (take_there (take_there (take_there (take_there (take_there (take_there (take_there (take_there (take_there (take_there take_here)))))))))))) | exact (take_there (take_there (take_there (take_there (take_there (take_there (take_there (take_there (take_there (take_there (take_there (take_there (take_there take_here))))))))))))) | exact (take_there (take_there (take_there (take_there (take_there (take_there (take_there (take_there (take_there (take_there (take_there (take_there (take_there (take_there take_here)))))))))))))) | exact (take_there (take_there (take_there (take_there (take_there (take_there (take_there (take_there (take_there (take_there (take_there (take_there (take_there (take_there (take_there take_here))))))))))))))) | exact (take_there (take_there (take_there (take_there (take_there (take_there (take_there (take_there (take_there (take_there (take_there (take_there (take_there (take_there (take_there (take_there take_here)))))))))))))))) | exact (take_there (take_there (take_there (take_there (take_there (take_there (take_there (take_there (take_there (take_there (take_there (take_there (take_there (take_there (take_there (take_there (take_there take_here))))))))))))))))) | exact (take_there (take_there (take_there (take_there (take_there (take_there (take_there (take_there (take_there (take_there (take_there (take_there (take_there (take_there (take_there (take_there (take_there (take_there take_here)))))))))))))))))) | exact (take_there (take_there (take_there (take_there (take_there (take_there (take_there (take_there (take_there (take_there (take_there (take_there (take_there (take_there (take_there (take_there (take_there (take_there (take_there take_here))))))))))))))))))) | exact (take_there (take_there (take_there (take_there (take_there (take_there (take_there (take_there (take_there (take_there (take_there (take_there (take_there (take_there (take_there (take_there (take_there (take_there (take_there (take_there take_here)))))))))))))))))))) | exact (take_there (take_there (take_there (take_there (take_there (take_there (take_there (take_there (take_there (take_there (take_there (take_there (take_there (take_there (take_there (take_there (take_there (take_there (take_there (take_there (take_there take_here))))))))))))))))))))))
open PySem L2 Toy in
local macro_rules | `(tactic| walk_at "cl") => `(tactic| first | (with_reducible assumption) | rfl | omega | trivial | (refine ⟨?_, ?_⟩ <;> walk_at "cl") | (simp; done) | (simp; omega))
open PySem L2 Toy in
local macro_rules | `(tactic| walk_at "dr") => `(tactic| first | with_reducible exact Sub.refl | ((with_reducible refine' Sub.drop ?s); (case s => walk_at "dr")))
open PySem L2 Toy in
local macro_rules | `(tactic| walk_at "sub10") => `(tactic| with_reducible first
  | exact Sub.refl | exact Sub.nil
  | ((refine' Sub.pu ?h ?_); (case h => with_unfolding_all walk_at "cl"))
  | ((refine Sub.all ?_); simp only [List.cons_append, List.nil_append])
  | (refine Sub.ex _ ?_)
  | ((refine' Sub.take (Take.keep ?t) ?_); (case t => walk_at "fr"))
  | ((refine' Sub.take ?t ?_); (case t => walk_at "fr"))
  | ((refine' Sub.take (take_ls0 ?t) ?_); (case t => walk_at "fr"))
  | ((refine' Sub.take (take_eq ?e ?t) ?_); (case t => walk_at "fr"); (case e => with_unfolding_all rfl))
  | ((refine' Sub.take (take_eqLs ?e ?t) ?_); (case t => walk_at "fr"); (case e => with_unfolding_all rfl))
  | ((refine' Sub.take (take_eqVl ?e ?t) ?_); (case t => walk_at "fr"); (case e => with_unfolding_all rfl))
  | walk_at "dr")
open PySem L2 Toy in
local macro_rules | `(tactic| walk_at "sub") => `(tactic| (repeat (walk_at "sub1")); done)
open PySem L2 Toy in
local macro_rules | `(tactic| walk_at "hl") => `(tactic| first | (with_reducible assumption) | ((with_reducible refine' hasL_pt ?h); (case h => walk_at "fr")) | ((with_reducible refine' hasL_sq ?h); (case h => walk_at "fr")))
open PySem L2 Toy in
local macro_rules | `(tactic| walk_at "ht") => `(tactic| first | (with_reducible assumption) | walk_at "tqs" | ((with_reducible refine' hasT_tu ?h); (case h => walk_at "fr")) | ((with_reducible refine' hasT_tq ?h); (case h => walk_at "fr")))
open PySem L2 Toy in
local macro_rules | `(tactic| walk_at "si") => `(tactic| first | omega | (with_reducible assumption) | decide | (refine ⟨?_, ?_⟩ <;> omega) | exact Or.inl ⟨by omega, by omega⟩ | exact Or.inr ⟨by omega, by omega⟩ | exact ⟨by omega, by omega, by omega⟩ | exact ⟨by decide, by decide, by decide⟩)
open PySem L2 Toy in
local macro_rules | `(tactic| walk_at "sz") => `(tactic| first | omega | exact Nat.le_of_ble_eq_true rfl | (with_reducible assumption) | (simp; done) | (simp; omega))
open PySem L2 Toy in
local macro_rules | `(tactic| walk_at "ix") => `(tactic| first | (with_reducible assumption) | exact atI_of (by omega) (by (with_reducible assumption)) | exact atI_0 | exact atI_m1 | rfl)
open PySem L2 Toy in
local macro_rules | `(tactic| walk_at "jx") => `(tactic| first | (with_reducible assumption) | exact ixN_at (by omega) (by omega) | exact ixN_at (by omega) (by (simp; omega)) | rfl)
open PySem L2 Toy in
local macro_rules | `(tactic| walk_at "vw") => `(tactic| first | rfl | (with_reducible assumption))
open PySem L2 Toy in
local macro_rules | `(tactic| walk_at "el0") => `(tactic| first | exact vl_I | exact vl_v (by walk_at "fr") | exact vl_T (by walk_at "fr") (fun _ h => ⟨_, rfl, h⟩) | exact vl_non)
open PySem L2 Toy in
local macro_rules | `(tactic| walk_at "dt") => `(tactic| first | (with_reducible assumption) | omega | (show _ = _; rfl) | decide +kernel)
open PySem L2 Toy in
local macro_rules | `(tactic| walk_at "df") => `(tactic| first | (with_reducible assumption) | omega | (intro z; cases z; done) | decide +kernel)
open PySem L2 Toy in
local macro_rules | `(tactic| walk_at "hi") => `(tactic| (refine' hasI_pt ?h ?g; (case h => walk_at "fr"); (case g => rfl)))
open PySem L2 Toy in
local macro_rules | `(tactic| walk_at "sS") => `(tactic| (with_reducible first | refine e_seq ?_ | refine e_asg ?_ | refine e_drop ?_ | refine e_ifs ?_ | refine e_ret ?_ | refine e_next ?_ | refine e_sfld0 ?_ | refine e_par ?_ | refine e_par3 ?_ | refine e_forR1 ?_ | refine e_forL ?_ | refine e_forT ?_ | refine e_forZ ?_ | refine e_forE ?_ | refine e_brk ?_ | refine e_cont ?_ | refine e_retN ?_))
open PySem L2 Toy in
local macro_rules | `(tactic| walk_at "sE") => `(tactic| first
  | ((with_reducible refine' e_var ?h ?_); (case h => rfl)) | (with_reducible first | refine e_c ?_ | refine e_op ?_ | refine e_call1 ?_ | refine e_meth1 ?_ | refine e_fld0 ?_ | refine e_cb ?_ | refine e_un ?_ | refine e_tup ?_ | refine e_lst ?_ | refine e_if0 ?_ | refine e_bm ?_ | refine e_bm0 ?_ | refine e_sl ?_ | refine e_chain ?_ | refine e_make ?_ | refine e_lc0 ?_ | refine e_lcE0 ?_ | refine e_prop0 ?_ | refine e_andV ?_ | refine e_orV ?_ | refine e_notV ?_ | refine e_rev0 ?_ | refine e_lstRg ?_ | refine e_tupRg ?_ | refine e_methN ?_ | refine e_methS ?_ | refine e_callN ?_ | refine e_callS ?_ | refine e_makeK ?_))
open PySem L2 Toy in
local macro_rules | `(tactic| walk_at "sT") => `(tactic| (with_reducible first | refine e_test ?_ | refine e_B ?_ | refine e_not ?_ | refine e_and ?_ | refine e_or ?_ | refine e_yes ?_))
open PySem L2 Toy in
local macro_rules | `(tactic| walk_at "sA") => `(tactic| (with_reducible first | refine e_cons ?_ | refine e_nil ?_))
open PySem L2 Toy in
local macro_rules | `(tactic| walk_at "sG") => `(tactic| first
  | (with_reducible refine e_gname ?_) | ((with_reducible refine' e_gtup ?h ?g ?_); (case h => walk_at "ht"); (case g => rfl)) | with_reducible refine e_gsub ?_)
open PySem L2 Toy in
local macro_rules | `(tactic| walk_at "sR") => `(tactic| first
  | (with_reducible first | refine e_I0 ?_ | refine e_eqII ?_ | refine e_neII ?_ | refine e_neB ?_)
  | ((with_reducible refine' e_I ?h ?_); (case h => walk_at "si"))
  | ((with_reducible refine' e_ixM ?h ?g ?_); (case h => walk_at "hl"); (case g => walk_at "ix"))
  | ((with_reducible refine' e_ixL ?h ?g ?_); (case h => walk_at "hl"); (case g => walk_at "ix"))
  | ((with_reducible refine' e_ixLs ?h ?g fun _ => ?_); (case h => walk_at "fr"); (case g => walk_at "ix"))
  | ((with_reducible refine' e_ixT ?h ?g ?_); (case h => walk_at "ht"); (case g => walk_at "ix"))
  | ((with_reducible refine' e_eq ?h ?_); (case h => rfl))
  | ((with_reducible refine' e_ne ?h ?_); (case h => rfl))
  | ((with_reducible refine' e_catM ?h ?g ?z fun _ => ?_); (case h => walk_at "fr"); (case g => walk_at "fr"); (case z => walk_at "sz"))
  | ((with_reducible refine' e_cat ?h ?g ?z fun _ => ?_); (case h => walk_at "fr"); (case g => walk_at "fr"); (case z => walk_at "sz"))
  | ((with_reducible refine' e_catLs ?h ?g ?z fun _ => ?_); (case h => walk_at "fr"); (case g => walk_at "fr"); (case z => walk_at "sz"))
  | ((with_reducible refine' e_rep ?h ?a ?b ?z fun _ => ?_); (case h => walk_at "fr"); (case a => omega); (case b => omega); (case z => walk_at "sz")))
open PySem L2 Toy in
local macro_rules | `(tactic| walk_at "sC") => `(tactic| first
  | ((with_reducible refine' e_lenL ?h ?_); (case h => walk_at "hl"))
  | ((with_reducible refine' e_lenLs ?h ?_); (case h => walk_at "fr"))
  | ((with_reducible refine' e_lenT ?h ?_); (case h => walk_at "ht"))
  | ((with_reducible refine' e_listOf ?h fun _ => ?_); (case h => walk_at "hl"))
  | ((with_reducible refine' e_listLs ?h fun _ => ?_); (case h => walk_at "fr"))
  | ((with_reducible refine' e_listOfT ?h fun _ => ?_); (case h => walk_at "ht"))
  | ((with_reducible refine' e_tupOf ?h fun _ => ?_); (case h => walk_at "hl"))
  | ((with_reducible refine' e_tupLs ?h fun _ => ?_); (case h => walk_at "fr"))
  | ((with_reducible refine' e_tupOfT ?h ?_); (case h => walk_at "ht"))
  | ((with_reducible refine' e_div ?h fun _ => ?_); (case h => exact ⟨by omega, by omega⟩)))
open PySem L2 Toy in
local macro_rules | `(tactic| walk_at "sM") => `(tactic| first
  | ((with_reducible refine' e_appM ?h ?v ?z ?_); (case h => walk_at "fr"); (case v => walk_at "vw"); (case z => walk_at "sz"))
  | ((with_reducible refine' e_app ?h ?z ?_); (case h => walk_at "fr"); (case z => walk_at "sz"))
  | ((with_reducible refine' e_appLs ?h ?y ?z ?_); (case h => walk_at "fr"); (case y => walk_at "el"); (case z => walk_at "sz"))
  | ((with_reducible refine' e_clear ?h ?_); (case h => walk_at "fr"))
  | ((with_reducible refine' e_clearLs ?h ?_); (case h => walk_at "fr"))
  | ((with_reducible refine' e_ext ?h ?g ?z ?_); (case h => walk_at "fr"); (case g => walk_at "fr"); (case z => walk_at "sz")))
open PySem L2 Toy in
local macro_rules | `(tactic| walk_at "sX") => `(tactic| first
  | (with_reducible first | refine e_bl ?_ | refine e_vw ?_ | refine e_uvw ?_ | refine e_iI ?_ | refine e_iIJ ?_ | refine e_ei ?_ | refine e_eij ?_)
  | ((with_reducible refine' e_methI ?h ?_); (case h => walk_at "hi"))
  | ((with_reducible refine' e_propI ?h ?_); (case h => walk_at "hi")))
open PySem L2 Toy in
local macro_rules | `(tactic| walk_at "sI") => `(tactic| first
  | (with_reducible first | refine eT ?_ | refine eF ?_ | refine eNT ?_ | refine eNF ?_)
  | ((with_reducible refine' eDT ?h ?_); (case h => walk_at "dt"))
  | ((with_reducible refine' eDF ?h ?_); (case h => walk_at "df"))
  | ((with_reducible refine' eNDT ?h ?_); (case h => walk_at "dt"))
  | ((with_reducible refine' eNDF ?h ?_); (case h => walk_at "df")))
open PySem L2 Toy in
local macro_rules | `(tactic| walk_at "sN") => `(tactic| first
  | (with_reducible refine e_rfl ?_) | ((with_reducible refine' e_ea ?h ?_); (case h => rfl)) | ((with_reducible refine' e_ln ?h ?_); (case h => rfl)))
open PySem L2 Toy in
local macro_rules | `(tactic| walk_at "sO") => `(tactic| first
  | (with_reducible first | refine e_U ?_ | refine e_gcons ?_ | refine e_gnil ?_ | refine e_int1 ?_ | refine e_intB ?_ | refine e_nopart ?_ | refine e_part ?_ | refine e_rg1 ?_ | refine e_rg2 ?_ | refine Ent.ex fun _ => ?_ | refine e_new fun _ _ => ?_)
  | ((with_reducible refine' e_tyL ?h ?_); (case h => walk_at "hl"))
  | ((with_reducible refine' e_tyLs ?h ?_); (case h => walk_at "fr"))
  | ((with_reducible refine' e_fld ?h ?c ?n ?l ?_); (case h => walk_at "fr"); (case c => walk_at "cls"); (case n => walk_at "nat"); (case l => rfl))
  | ((with_reducible refine' e_sfld ?h ?c ?n ?l ?e ?_); (case h => walk_at "fr"); (case c => walk_at "cls"); (case n => walk_at "nat"); (case l => exact Nat.le_of_ble_eq_true rfl); (case e => rfl))
  | ((with_reducible refine' e_newT ?h fun _ => ?_); (case h => walk_at "sz"))
  | ((with_reducible refine' e_newL ?h fun _ => ?_); (case h => walk_at "sz"))
  | ((with_reducible refine' e_setM ?h ?v ?g ?_); (case h => walk_at "fr"); (case v => walk_at "vw"); (case g => walk_at "jx"))
  | ((with_reducible refine' e_setL ?h ?g ?_); (case h => walk_at "fr"); (case g => walk_at "jx"))
  | ((with_reducible refine' e_slM ?h fun _ => ?_); (case h => walk_at "hl"))
  | ((with_reducible refine' e_slL ?h fun _ => ?_); (case h => walk_at "hl"))
  | ((with_reducible refine' e_slLs ?h fun _ => ?_); (case h => walk_at "fr"))
  | ((with_reducible refine' e_revM ?h fun _ => ?_); (case h => walk_at "hl"))
  | ((with_reducible refine' e_rev ?h fun _ => ?_); (case h => walk_at "hl"))
  | ((with_reducible refine' e_revLs ?h fun _ => ?_); (case h => walk_at "fr"))
  | ((with_reducible refine' e_rgL ?h fun _ => ?_); (case h => omega))
  | ((with_reducible refine' e_rgT ?h fun _ => ?_); (case h => omega))
  | ((with_reducible refine' e_newK ?h ?g fun _ _ => ?_); (case h => rfl); (case g => rfl)))
open PySem L2 Toy in
local macro_rules | `(tactic| walk_at "st") => `(tactic| first
  | ((with_reducible refine gS ?_); walk_at "sS")
  | ((with_reducible refine gE ?_); walk_at "sE")
  | ((with_reducible refine gT ?_); walk_at "sT")
  | ((with_reducible refine gA ?_); walk_at "sA")
  | ((with_reducible refine gX ?_); walk_at "sX")
  | ((with_reducible refine gI ?_); walk_at "sI")
  | ((with_reducible refine gR ?_); walk_at "sR")
  | ((with_reducible refine gC ?_); walk_at "sC")
  | ((with_reducible refine gM ?_); walk_at "sM")
  | ((with_reducible refine gG ?_); walk_at "sG")
  | ((with_reducible refine gN ?_); walk_at "sN")
  | walk_at "sO")
open PySem L2 Toy in
local macro_rules | `(tactic| walk_at "fr0") => `(tactic| first | (with_reducible exact take_here) | ((with_reducible apply take_there); walk_at "fr0"))
open PySem L2 Toy in
local macro_rules | `(tactic| walk_at "el") => `(tactic| first
  | (with_reducible first | exact is_I | exact is_B | exact is_N | exact is_no)
  | ((with_reducible refine' is_v ?h); (case h => walk_at "fr0"))
  | ((with_reducible refine' is_so ?h); (case h => walk_at "el"))
  | ((with_reducible refine' is_tup ?t ?h); (case t => walk_at "fr0"); (case h => walk_at "els"))
  | ((with_reducible refine' is_ul ?h); (case h => walk_at "el"))
  | ((with_reducible refine' is_ur ?h); (case h => walk_at "el"))
  | ((with_reducible refine' is_St ?h); (case h => first | (with_reducible assumption) | decide +kernel))
  | ((with_reducible refine' is_kTu ?t ?h); (case t => walk_at "fr0"); (case h => walk_at "as"))
  | ((with_reducible refine' is_k3T ?h); (case h => walk_at "fr0"))
  | ((with_reducible refine' is_kTr ?h); (case h => walk_at "el"))
  | ((with_reducible refine' is_kTl ?h); (case h => walk_at "el"))
  | ((with_reducible refine' is_kTq ?t ?h); (case t => walk_at "tqs"); (case h => walk_at "as")))
open PySem L2 Toy in
local macro_rules | `(tactic| walk_at "elz") => `(tactic| first | walk_at "el" | walk_at "fr")
open PySem L2 Toy in
local macro_rules | `(tactic| walk_at "els") => `(tactic| first
  | (with_reducible exact is_nil)
  | ((with_reducible refine' is_c1 ?h); (case h => walk_at "el"))
  | ((with_reducible refine' is_c ?h ?g); (case h => walk_at "el"); (case g => walk_at "els")))
open PySem L2 Toy in
local macro_rules | `(tactic| walk_at "as") => `(tactic| first
  | (with_reducible exact isA_nil)
  | ((with_reducible refine' isA_c ?h ?g); (case h => walk_at "el"); (case g => walk_at "as")))
open PySem L2 Toy in
local macro_rules | `(tactic| walk_at "acs") => `(tactic| first
  | (with_reducible exact isA_nil)
  | ((with_reducible refine' isA_c ?h ?g); (case h => walk_at "ct"); (case g => walk_at "acs")))
open PySem L2 Toy in
local macro_rules | `(tactic| walk_at "ct") => `(tactic| first
  | ((with_reducible refine' isC_e ?h); (case h => walk_at "el"))
  | ((with_reducible refine' isC_ls ?h); (case h => walk_at "fr0"))
  | ((with_reducible refine' isC_lsO ?h); (case h => walk_at "fr0"))
  | ((with_reducible refine' isC_t ?t ?h); (case t => walk_at "fr0"); (case h => walk_at "cts"))
  | ((with_reducible refine' isC_l ?t ?h); (case t => walk_at "fr0"); (case h => walk_at "acs")))
open PySem L2 Toy in
local macro_rules | `(tactic| walk_at "cts") => `(tactic| first
  | (with_reducible exact isC_n)
  | ((with_reducible refine' isC_c1 ?h); (case h => walk_at "ct"))
  | ((with_reducible refine' isC_c ?h ?g); (case h => walk_at "ct"); (case g => walk_at "cts")))
open PySem L2 Toy in
local macro_rules | `(tactic| walk_at "sub1") => `(tactic| first
  | ((with_reducible refine' Sub.is ?h ?_); (case h => walk_at "el"))
  | walk_at "sub11"
  | (with_reducible refine Sub.oNone ?_) | (with_reducible refine Sub.oSome ?_) | (with_reducible refine Sub.oI ?_) | (with_reducible refine Sub.oE ?_) | ((with_reducible refine' Sub.oSomeE ?e ?_); (case e => (with_reducible assumption))) | ((with_reducible refine' Sub.oTt ?t ?_); (case t => walk_at "fr0")) | (with_reducible refine Sub.oC ?_) | (with_reducible refine Sub.oC1 ?_)
  | walk_at "dr")
open PySem L2 Toy in
local macro_rules | `(tactic| walk_at "sub11") => `(tactic| with_reducible first
  | exact Sub.refl | exact Sub.nil
  | ((refine' Sub.pu ?h ?_); (case h => with_unfolding_all walk_at "cl"))
  | ((refine Sub.all ?_); simp only [List.cons_append, List.nil_append])
  | (refine Sub.ex _ ?_)
  | ((refine' Sub.take (Take.keep ?t) ?_); (case t => walk_at "fr"))
  | ((refine' Sub.take ?t ?_); (case t => walk_at "fr"))
  | ((refine' Sub.take (take_ls0 ?t) ?_); (case t => walk_at "fr"))
  | ((refine' Sub.take (take_eq ?e ?t) ?_); (case t => walk_at "fr"); (case e => with_unfolding_all rfl))
  | ((refine' Sub.take (take_eqLs ?e ?t) ?_); (case t => walk_at "fr"); (case e => with_unfolding_all rfl))
  | ((refine' Sub.take (take_eqVl ?e ?t) ?_); (case t => walk_at "fr"); (case e => with_unfolding_all rfl)))
open PySem L2 Toy in
local macro_rules | `(tactic| walk_at "subR1") => `(tactic| first
  | (with_reducible exact Sub.refl)
  | ((with_reducible refine' Sub.is ?h ?m); (case h => walk_at "el"); (case m => walk_at "subR1"))
  | ((with_reducible refine' Sub.take (Take.keep ?t) ?m); (case t => walk_at "fr0"); (case m => walk_at "subR1"))
  | ((with_reducible refine' Sub.take ?t ?m); (case t => walk_at "fr"); (case m => walk_at "subR1"))
  | ((refine' Sub.take (take_eq ?e ?t) ?m); (case t => walk_at "fr0"); (case e => with_unfolding_all rfl); (case m => walk_at "subR1"))
  | ((with_reducible refine' Sub.oNone ?m); (case m => walk_at "subR1"))
  | ((with_reducible refine' Sub.oSome ?m); (case m => walk_at "subR1"))
  | ((with_reducible refine' Sub.oI ?m); (case m => walk_at "subR1"))
  | ((with_reducible refine' Sub.oE ?m); (case m => walk_at "subR1"))
  | ((with_reducible refine' Sub.oC ?m); (case m => walk_at "subR1"))
  | ((with_reducible refine' Sub.oC1 ?m); (case m => walk_at "subR1"))
  | ((with_reducible refine' Sub.oSomeE ?e ?m); (case e => (with_reducible assumption)); (case m => walk_at "subR1"))
  | ((with_reducible refine' Sub.oTt ?t ?m); (case t => walk_at "fr0"); (case m => walk_at "subR1")))
open PySem L2 Toy in
local macro_rules | `(tactic| walk_at "subR") => `(tactic| ((try simp only [List.cons_append, List.nil_append]); walk_at "subR1"))
open PySem L2 Toy in
local macro_rules | `(tactic| walk_at "norm") => `(tactic| try simp only [List.cons_append, List.nil_append, upds, List.set_cons_succ, List.set_cons_zero])
open PySem L2 Toy in
local macro_rules | `(tactic| walk_at "nv") => `(tactic| first
  | (with_reducible first | refine Ent.vI ?_ | refine Ent.vB ?_ | refine Ent.vSt ?_ | refine Ent.vN ?_ | refine Ent.vFz fun _ => ?_ | refine Ent.vTr fun _ => ?_ | refine Ent.vI2 ?_ | refine Ent.vB2 ?_ | refine Ent.vS2 ?_) | intro _)
open PySem L2 Toy in
local macro_rules | `(tactic| walk_at "opn") => `(tactic| first
  | ((with_reducible refine Ent.els1I fun e => ?_); subst e)
  | ((with_reducible refine Ent.els1B fun e => ?_); subst e)
  | ((with_reducible refine Ent.els1S fun e => ?_); subst e)
  | ((with_reducible refine Ent.els1Fz fun _ e => ?_); subst e)
  | ((with_reducible refine Ent.els1T fun _ e => ?_); subst e)
  | ((with_reducible refine Ent.els1 fun _ e => ?_); subst e)
  | ((with_reducible refine Ent.elsCI fun _ e => ?_); subst e; walk_at "opn")
  | ((with_reducible refine Ent.elsCB fun _ e => ?_); subst e; walk_at "opn")
  | ((with_reducible refine Ent.elsCS fun _ e => ?_); subst e; walk_at "opn")
  | ((with_reducible refine Ent.elsCFz fun _ _ e => ?_); subst e; walk_at "opn")
  | ((with_reducible refine Ent.elsCT fun _ _ e => ?_); subst e; walk_at "opn")
  | ((with_reducible refine Ent.elsC fun _ _ e => ?_); subst e; walk_at "opn")
  | ((with_reducible refine Ent.elsN fun e => ?_); subst e))
open PySem L2 Toy in
local macro_rules | `(tactic| walk_at "gR1") => `(tactic| first
  | (with_reducible refine c_I $(Lean.mkIdent `hm) (fun $(Lean.mkIdent `hm) => ?_))
  | (with_reducible first | refine e_I0 ?_ | refine e_eqII ?_ | refine e_neII ?_ | refine e_eqSS ?_ | refine e_neSS ?_ | refine e_eqBB ?_ | refine e_neBB ?_)
  | ((with_reducible refine' e_I ?h ?_); (case h => walk_at "si"))
  | ((with_reducible refine' c_ix $(Lean.mkIdent `hm) ?t (fun w $(Lean.mkIdent `hm) => ?_)); (case t => walk_at "fr"); walk_at "nv")
  | ((with_reducible refine' c_ixT $(Lean.mkIdent `hm) ?t (fun w $(Lean.mkIdent `hm) => ?_)); (case t => walk_at "fr0"); walk_at "nv")
  | ((with_reducible refine' e_ixT ?h ?g ?_); (case h => walk_at "ht"); (case g => rfl))
  | ((with_reducible refine' c_opnIx ?t (fun a us e => ?_)); (case t => walk_at "fr0"); (first | subst e | rw [e]); walk_at "opn")
  | ((with_reducible refine' e_eqC ?h ?g ?_); (case h => walk_at "ct"); (case g => walk_at "ct"))
  | ((with_reducible refine' e_neC ?h ?g ?_); (case h => walk_at "ct"); (case g => walk_at "ct"))
  | ((with_reducible refine' c_isO ?t ?n ?_); (case t => walk_at "fr0"); (case n => infer_instance))
  | ((with_reducible refine' c_noO ?t ?n ?_); (case t => walk_at "fr0"); (case n => infer_instance))
  | ((with_reducible refine' c_isOw ?t ?n ?_); (case t => walk_at "fr0"); (case n => infer_instance))
  | ((with_reducible refine' c_noOw ?t ?n ?_); (case t => walk_at "fr0"); (case n => infer_instance))
  | ((with_reducible refine' c_opnO ?t (fun a us e => ?_)); (case t => walk_at "fr0"); (first | subst e | rw [e]); walk_at "opno")
  | (with_reducible first | refine c_isT ?_ | refine c_noT ?_)
  | (with_reducible first | refine e_isBl ?_ | refine e_notBl ?_)
  | ((with_reducible refine' c_isF ?h ?_); (case h => intro z; cases z))
  | ((with_reducible refine' c_noF ?h ?_); (case h => intro z; cases z))
  | ((with_reducible refine' e_inLs ?h ?_); (case h => walk_at "fr"))
  | ((with_reducible refine' c_inO ?v ?t ?_); (case t => walk_at "fr"); (case v => walk_at "el"))
  | ((with_reducible refine' c_inI1 ?t ?_); (case t => walk_at "ht"))
  | ((with_reducible refine' c_inS1 ?t ?_); (case t => walk_at "ht"))
  | ((with_reducible refine' c_niI1 ?t ?_); (case t => walk_at "ht"))
  | ((with_reducible refine' c_niS1 ?t ?_); (case t => walk_at "ht"))
  | ((with_reducible refine' c_inI2 ?t ?_); (case t => walk_at "ht"))
  | ((with_reducible refine' c_inS2 ?t ?_); (case t => walk_at "ht"))
  | ((with_reducible refine' c_niI2 ?t ?_); (case t => walk_at "ht"))
  | ((with_reducible refine' c_niS2 ?t ?_); (case t => walk_at "ht"))
  | ((with_reducible refine' c_inI3 ?t ?_); (case t => walk_at "ht"))
  | ((with_reducible refine' c_inS3 ?t ?_); (case t => walk_at "ht"))
  | ((with_reducible refine' c_niI3 ?t ?_); (case t => walk_at "ht"))
  | ((with_reducible refine' c_niS3 ?t ?_); (case t => walk_at "ht"))
  | ((with_reducible refine' c_inI4 ?t ?_); (case t => walk_at "ht"))
  | ((with_reducible refine' c_inS4 ?t ?_); (case t => walk_at "ht"))
  | ((with_reducible refine' c_niI4 ?t ?_); (case t => walk_at "ht"))
  | ((with_reducible refine' c_niS4 ?t ?_); (case t => walk_at "ht"))
  | ((with_reducible refine' c_inI5 ?t ?_); (case t => walk_at "ht"))
  | ((with_reducible refine' c_inS5 ?t ?_); (case t => walk_at "ht"))
  | ((with_reducible refine' c_niI5 ?t ?_); (case t => walk_at "ht"))
  | ((with_reducible refine' c_niS5 ?t ?_); (case t => walk_at "ht"))
  | ((with_reducible refine' c_inI6 ?t ?_); (case t => walk_at "ht"))
  | ((with_reducible refine' c_inS6 ?t ?_); (case t => walk_at "ht"))
  | ((with_reducible refine' c_niI6 ?t ?_); (case t => walk_at "ht"))
  | ((with_reducible refine' c_niS6 ?t ?_); (case t => walk_at "ht"))
  | ((with_reducible refine' c_inI7 ?t ?_); (case t => walk_at "ht"))
  | ((with_reducible refine' c_inS7 ?t ?_); (case t => walk_at "ht"))
  | ((with_reducible refine' c_niI7 ?t ?_); (case t => walk_at "ht"))
  | ((with_reducible refine' c_niS7 ?t ?_); (case t => walk_at "ht"))
  | ((with_reducible refine' c_inI8 ?t ?_); (case t => walk_at "ht"))
  | ((with_reducible refine' c_inS8 ?t ?_); (case t => walk_at "ht"))
  | ((with_reducible refine' c_niI8 ?t ?_); (case t => walk_at "ht"))
  | ((with_reducible refine' c_niS8 ?t ?_); (case t => walk_at "ht"))
  | ((with_reducible refine' c_inS9 ?t ?_); (case t => walk_at "ht"))
  | ((with_reducible refine' c_niS9 ?t ?_); (case t => walk_at "ht"))
  | ((with_reducible refine' c_inS10 ?t ?_); (case t => walk_at "ht"))
  | ((with_reducible refine' c_niS10 ?t ?_); (case t => walk_at "ht"))
  | ((with_reducible refine' c_inS11 ?t ?_); (case t => walk_at "ht"))
  | ((with_reducible refine' c_niS11 ?t ?_); (case t => walk_at "ht"))
  | ((with_reducible refine' c_inS12 ?t ?_); (case t => walk_at "ht"))
  | ((with_reducible refine' c_niS12 ?t ?_); (case t => walk_at "ht"))
  | ((with_reducible refine' c_inLsS ?t ?_); (case t => walk_at "fr"))
  | ((with_reducible refine' c_niLsS ?t ?_); (case t => walk_at "fr"))
  | ((with_reducible refine' c_inSqS ?t ?_); (case t => walk_at "sq2"))
  | ((with_reducible refine' c_niSqS ?t ?_); (case t => walk_at "sq2"))
  | ((with_reducible refine' c_inKT ?t ?_); (case t => walk_at "ktt"))
  | ((with_reducible refine' c_niKT ?t ?_); (case t => walk_at "ktt"))
  | ((with_reducible refine' c_inKQ ?t ?_); (case t => walk_at "kqt"))
  | ((with_reducible refine' c_niKQ ?t ?_); (case t => walk_at "kqt"))
  | walk_at "ixq"
  | walk_at "vts"
  | ((with_reducible refine' c_neDk0 ?t ?g ?_); (case t => walk_at "fr"); (case g => walk_at "fr0"))
  | ((with_reducible refine' e_niLs ?h ?_); (case h => walk_at "fr"))
  | ((with_reducible refine' c_inSq ?h ?_); (case h => walk_at "sq2"))
  | ((with_reducible refine' c_niSq ?h ?_); (case h => walk_at "sq2"))
  | walk_at "cat"
  | walk_at "rep"
  | walk_at "tcat"
  | ((with_reducible refine' c_catKT ?t ?g $(Lean.mkIdent `hm) (fun $(Lean.mkIdent `hm) _ => ?_)); (case t => walk_at "fr0"); (case g => walk_at "fr0"))
  | ((with_reducible refine' c_inIDk ?t ?_); (case t => walk_at "fr"))
  | ((with_reducible refine' c_niIDk ?t ?_); (case t => walk_at "fr"))
  | ((with_reducible refine' c_inSDk ?t ?_); (case t => walk_at "fr"))
  | ((with_reducible refine' c_niSDk ?t ?_); (case t => walk_at "fr"))
  | ((with_reducible refine' c_ixD $(Lean.mkIdent `hm) ?d (fun w $(Lean.mkIdent `hm) => ?_)); (case d => walk_at "kdt"))
  | ((with_reducible refine' c_inD $(Lean.mkIdent `hm) ?d (fun $(Lean.mkIdent `hm) => ?_)); (case d => walk_at "kdt"))
  | ((with_reducible refine' c_niD $(Lean.mkIdent `hm) ?d (fun $(Lean.mkIdent `hm) => ?_)); (case d => walk_at "kdt"))
  | ((with_reducible refine' e_ownNe ?h ?ht ?hn ?_); (case h => walk_at "ins"); (case ht => walk_at "tyx"); (case hn => walk_at "nfst"))
  | ((with_reducible refine' e_own ?h ?ht ?hn ?_); (case h => walk_at "ins"); (case ht => walk_at "tyx"); (case hn => walk_at "nfst"))
  | ((with_reducible refine' e_eq ?h ?_); (case h => rfl))
  | ((with_reducible refine' e_ne ?h ?_); (case h => rfl)))
open PySem L2 Toy in
local macro_rules | `(tactic| walk_at "gC1") => `(tactic| first
  | ((with_reducible refine' c_lenSq ?h ?_); (case h => walk_at "sq2"))
  | ((with_reducible refine' c_listSq ?h (fun _ => ?_)); (case h => walk_at "sq2"))
  | walk_at "rpr"
  | ((with_reducible refine' c_lenDk ?t ?_); (case t => walk_at "fr"))
  | ((with_reducible refine' c_sortedP ?t (fun _ => ?_)); (case t => walk_at "fr"))
  | ((with_reducible refine' c_dictCp ?t (fun _ => ?_)); (case t => walk_at "fr"))
  | ((with_reducible refine' c_listDkI ?t (fun _ => ?_)); (case t => walk_at "fr"))
  | ((with_reducible refine' c_sortDkI $(Lean.mkIdent `hm) ?t (fun $(Lean.mkIdent `hm) _ => ?_)); (case t => walk_at "fr"))
  | ((with_reducible refine' c_all ?h ?_); (case h => walk_at "fr"))
  | ((with_reducible refine' e_isi (r := true) ?ht ?hc ?hk ?_); (case ht => walk_at "tyx"); (case hc => (first | exact .ty _ | exact .own _)); (case hk => walk_at "kit"))
  | ((with_reducible refine' e_isi (r := false) ?ht ?hc ?hk ?_); (case ht => walk_at "tyx"); (case hc => (first | exact .ty _ | exact .own _)); (case hk => walk_at "kit"))
  | ((with_reducible refine' e_lenLs ?h ?_); (case h => walk_at "fr"))
  | ((with_reducible refine' c_lenT ?h ?_); (case h => walk_at "fr0"))
  | ((with_reducible refine' e_lenT ?h ?_); (case h => walk_at "ht"))
  | ((with_reducible refine' c_opnLenT ?t (fun a us e => ?_)); (case t => walk_at "fr0"); (first | subst e | rw [e]); walk_at "opn")
  | ((with_reducible refine' e_sort ?h (fun _ => ?_)); (case h => walk_at "fr"))
  | ((with_reducible refine' c_setI $(Lean.mkIdent `hm) ?t (fun $(Lean.mkIdent `hm) _ _ hc64 => ?_)); (case t => walk_at "fr"))
  | ((with_reducible refine' c_setU $(Lean.mkIdent `hm) ?t (fun _ $(Lean.mkIdent `hm) _ _ hc64 => ?_)); (case t => walk_at "fr0"))
  | ((with_reducible refine' c_listKT ?t ?z (fun _ => ?_)); (case t => walk_at "ktt"); (case z => decide +kernel))
  | ((with_reducible refine' c_lenKTD ?t ?_); (case t => walk_at "ktt"))
  | ((with_reducible refine' c_isiUS ?t ?_); (case t => walk_at "fr0"))
  | ((with_reducible refine' c_sortSet (K := $(Lean.mkIdent `K)) ?h ?t (fun _ => ?_)); (case t => walk_at "fr0"); (case h => (with_reducible assumption)))
  | ((with_reducible refine' c_minDk $(Lean.mkIdent `hm) ?h (fun _ $(Lean.mkIdent `hm) => ?_)); (case h => walk_at "fr"))
  | ((with_reducible refine' c_min $(Lean.mkIdent `hm) ?h (fun _ $(Lean.mkIdent `hm) => ?_)); (case h => walk_at "fr"))
  | ((with_reducible refine' e_listLs ?h (fun _ => ?_)); (case h => walk_at "fr"))
  | ((with_reducible refine' e_tupLs ?h (fun _ => ?_)); (case h => walk_at "fr"))
  | ((with_reducible refine' c_tupFz ?h (fun _ => ?_)); (case h => walk_at "fr0"))
  | ((with_reducible refine' c_tupSq ?h (fun _ => ?_)); (case h => walk_at "sq2")))
open PySem L2 Toy in
local macro_rules | `(tactic| walk_at "gM1") => `(tactic| first
  | ((with_reducible refine' c_app $(Lean.mkIdent `hm) ?t ?y (fun $(Lean.mkIdent `hm) => ?_)); (case t => walk_at "fr"); (case y => walk_at "el"))
  | ((with_reducible refine' c_ins0 $(Lean.mkIdent `hm) ?t ?y (fun $(Lean.mkIdent `hm) => ?_)); (case t => walk_at "fr"); (case y => walk_at "el"))
  | ((with_reducible refine' e_appDrop $(Lean.mkIdent `hm) ?t (fun $(Lean.mkIdent `hm) => ?_)); (case t => walk_at "fr"))
  | ((with_reducible refine' c_pop $(Lean.mkIdent `hm) ?t (fun w $(Lean.mkIdent `hm) => ?_)); (case t => walk_at "fr"); walk_at "nv")
  | ((with_reducible refine' c_popAt $(Lean.mkIdent `hm) ?t (fun w $(Lean.mkIdent `hm) => ?_)); (case t => walk_at "fr"); walk_at "nv")
  | ((with_reducible refine' c_indexS $(Lean.mkIdent `hm) ?t (fun j $(Lean.mkIdent `hm) => ?_)); (case t => walk_at "fr"))
  | ((with_reducible refine' c_indexI $(Lean.mkIdent `hm) ?t (fun j $(Lean.mkIdent `hm) => ?_)); (case t => walk_at "fr"))
  | ((with_reducible refine' c_remD $(Lean.mkIdent `hm) ?t ?v ?D ?n (fun j $(Lean.mkIdent `hm) => ?_)); (case t => walk_at "fr"); (case v => walk_at "el"); (case D => infer_instance); (case n => exact Nat.le_of_ble_eq_true rfl))
  | ((with_reducible refine' e_clearLs ?h ?_); (case h => walk_at "fr")))
open PySem L2 Toy in
local macro_rules | `(tactic| walk_at "gG1") => `(tactic| first
  | (with_reducible refine e_gname ?_) | (with_reducible refine e_gall ?_) | (with_reducible refine e_gsl ?_) | ((with_reducible refine' e_gtup ?h ?g ?_); (case h => walk_at "ht"); (case g => rfl)) | (with_reducible refine e_gsub ?_)
  | ((with_reducible refine' c_opnOG ?t (fun a us e => ?_)); (case t => walk_at "fr0"); (first | subst e | rw [e]); walk_at "opno")
  | ((with_reducible refine' c_opnG ?t (fun a us e => ?_)); (case t => walk_at "fr0"); (first | subst e | rw [e]); walk_at "opn"))
open PySem L2 Toy in
local macro_rules | `(tactic| walk_at "opno") => `(tactic| first
  | ((with_reducible refine Ent.owC1EI fun e => ?_); subst e)
  | ((with_reducible refine Ent.owCEI fun _ e => ?_); subst e; walk_at "opno")
  | ((with_reducible refine Ent.owC1I fun _ e => ?_); subst e)
  | ((with_reducible refine Ent.owCI fun _ _ e => ?_); subst e; walk_at "opno")
  | ((with_reducible refine Ent.owC1E fun _ e => ?_); subst e)
  | ((with_reducible refine Ent.owCE fun _ _ e => ?_); subst e; (with_reducible refine Ent.swp ?_); walk_at "opno"))
open PySem L2 Toy in
local macro_rules | `(tactic| walk_at "gT1") => `(tactic| first
  | walk_at "sT"
  | ((with_reducible refine' c_cutT $(Lean.mkIdent `hm) (fun jp $(Lean.mkIdent `hm) => ?q) (fun b $(Lean.mkIdent `hm) => ?_)); (case q => repeat (walk_at "go"))))
open PySem L2 Toy in
local macro_rules | `(tactic| walk_at "sq2") => `(tactic| first
  | ((refine' SqAt.sub ?z ?y); (case y => (with_reducible assumption)); (case z => walk_at "dr"))
  | ((refine' sqAt_ls ?z); (case z => walk_at "fr"))
  | ((refine' sqAt_kT ?z); (case z => walk_at "fr0"))
  | ((refine' sqAt_fz ?z); (case z => walk_at "fr0")))
open PySem L2 Toy in
local macro_rules | `(tactic| walk_at "rdl") => `(tactic| first
  | ((refine' rdL_fz ?z); (case z => walk_at "fr0"))
  | ((refine' rdL_ls ?z); (case z => walk_at "fr")))
open PySem L2 Toy in
local macro_rules | `(tactic| walk_at "man") => `(tactic| first
  | ((with_reducible refine' c_draw $(Lean.mkIdent `hm) ?t (fun d $(Lean.mkIdent `hm) => ?_)); (case t => walk_at "fr0"))
  | ((with_reducible refine' c_pick $(Lean.mkIdent `hm) ?t ?l (fun w $(Lean.mkIdent `hm) => ?_)); (case t => walk_at "fr0"); (case l => walk_at "fr"); walk_at "nv")
  | ((with_reducible refine' c_isList ?h ?_); (case h => walk_at "sq2"))
  | ((with_reducible refine' e_pot ?t ?a ?b (fun _ => ?_)); (case t => walk_at "fr0"); (case a => omega); (case b => omega))
  | (with_reducible first | refine e_integer ?_ | refine e_count ?_ | refine e_isWord ?_ | refine e_B1 ?_)
  | (with_reducible first | refine c_wantMany $(Lean.mkIdent `hm) (fun $(Lean.mkIdent `hm) => ?_) | refine c_wantWord $(Lean.mkIdent `hm) (fun $(Lean.mkIdent `hm) => ?_) | refine c_W1 $(Lean.mkIdent `hm) (fun $(Lean.mkIdent `hm) => ?_)))
open PySem L2 Toy in
local macro_rules | `(tactic| walk_at "dk1") => `(tactic| first
  | ((with_reducible refine' c_dgetI $(Lean.mkIdent `hm) ?t (fun w $(Lean.mkIdent `hm) => ?_)); (case t => walk_at "fr"); walk_at "nv")
  | ((with_reducible refine' c_dgetIL $(Lean.mkIdent `hm) ?t (fun w $(Lean.mkIdent `hm) => ?_)); (case t => walk_at "fr0"); walk_at "nv")
  | ((with_reducible refine' c_dputI $(Lean.mkIdent `hm) ?t ?v (fun $(Lean.mkIdent `hm) => ?_)); (case t => walk_at "fr"); (case v => walk_at "el"))
  | ((with_reducible refine' c_dpopI $(Lean.mkIdent `hm) ?t (fun w $(Lean.mkIdent `hm) => ?_)); (case t => walk_at "fr"); walk_at "nv")
  | ((with_reducible refine' c_dgdI ?t ?v ?_); (case t => walk_at "fr"); (case v => walk_at "el"); walk_at "nv")
  | ((with_reducible refine' c_dgetS $(Lean.mkIdent `hm) ?t (fun w $(Lean.mkIdent `hm) => ?_)); (case t => walk_at "fr"); walk_at "nv")
  | ((with_reducible refine' c_dputS $(Lean.mkIdent `hm) ?t ?v (fun $(Lean.mkIdent `hm) => ?_)); (case t => walk_at "fr"); (case v => walk_at "el"))
  | ((with_reducible refine' c_dpopS $(Lean.mkIdent `hm) ?t (fun w $(Lean.mkIdent `hm) => ?_)); (case t => walk_at "fr"); walk_at "nv")
  | ((with_reducible refine' c_dgdS ?t ?v ?_); (case t => walk_at "fr"); (case v => walk_at "el"); walk_at "nv")
  | ((with_reducible refine' c_dp0 ?t ?_); (case t => walk_at "fr"))
  | ((with_reducible refine' c_dg20 ?t ?_); (case t => walk_at "fr")))
open PySem L2 Toy in
local macro_rules | `(tactic| walk_at "gO1") => `(tactic| first
  | (with_reducible first | refine e_U ?_ | refine e_gcons ?_ | refine e_gnil ?_ | refine e_int1 ?_ | refine e_intB ?_ | refine e_nopart ?_ | refine e_part ?_ | refine e_rg1 ?_ | refine e_rg2 ?_ | refine e_new fun _ _ => ?_)
  | ((with_reducible refine' e_tyPt ?h ?_); (case h => walk_at "fr0"))
  | ((with_reducible refine' e_tyLs ?h ?_); (case h => walk_at "fr"))
  | ((with_reducible refine' e_tyDk ?h ?_); (case h => walk_at "fr"))
  | ((with_reducible refine' e_fld ?h ?c ?n ?l ?_); (case h => walk_at "fr0"); (case c => walk_at "cls"); (case n => walk_at "nat"); (case l => rfl))
  | ((with_reducible refine' e_sfld ?h ?c ?n ?l ?e ?_); (case h => walk_at "fr0"); (case c => walk_at "cls"); (case n => walk_at "nat"); (case l => exact Nat.le_of_ble_eq_true rfl); (case e => rfl))
  | ((with_reducible refine' c_ixLr ?t ?e ?_); (case t => walk_at "fr0"); (case e => with_unfolding_all exact rfl))
  | walk_at "open1"
  | walk_at "drc"
  | walk_at "dsp"
  | (with_reducible refine e_mko0 ?_)
  | ((with_reducible refine' e_coreN ?hC ?hn (fun d => ?_)); (case hC => walk_at "oxc"); (case hn => walk_at "oxn"))
  | ((with_reducible refine' e_coreV ?hC ?hn (fun d => ?_)); (case hC => walk_at "oxc"); (case hn => walk_at "oxn"))
  | ((with_reducible refine' c_sumT2 ?h ?_); (case h => walk_at "ht"))
  | ((with_reducible refine' c_sl2 $(Lean.mkIdent `hm) ?t ?g (fun $(Lean.mkIdent `hm) => ?_)); (case t => walk_at "fr"); (case g => walk_at "fr"))
  | ((with_reducible refine' c_lsi $(Lean.mkIdent `hm) ?t (fun $(Lean.mkIdent `hm) => ?_)); (case t => walk_at "fr"))
  | ((with_reducible refine' c_lst $(Lean.mkIdent `hm) ?t (fun $(Lean.mkIdent `hm) => ?_)); (case t => walk_at "el"))
  | ((with_reducible refine' c_srt3 (K := $(Lean.mkIdent `K)) $(Lean.mkIdent `hm) ?t (fun _ $(Lean.mkIdent `hm) _ => ?_)); (case t => walk_at "fr"))
  | ((with_reducible refine' c_setTx $(Lean.mkIdent `hm) ?t (fun $(Lean.mkIdent `hm) _ c hc => ?_)); (case t => walk_at "fr"))
  | ((with_reducible refine' c_sortTx (K := $(Lean.mkIdent `K)) $(Lean.mkIdent `hm) ?h ?t (fun _ $(Lean.mkIdent `hm) _ => ?_)); (case h => (with_reducible assumption)); (case t => walk_at "fr0"))
  | ((with_reducible refine' c_sortSI $(Lean.mkIdent `hm) ?t (fun $(Lean.mkIdent `hm) _ => ?_)); (case t => walk_at "fr"))
  | ((with_reducible refine' c_dictP ?t (fun _ => ?_)); (case t => walk_at "fr"))
  | ((with_reducible refine' c_sortIt $(Lean.mkIdent `hm) ?t ?g (fun $(Lean.mkIdent `hm) _ => ?_)); (case t => walk_at "fr0"); (case g => walk_at "fr"))
  | ((with_reducible refine' e_itemsK ?t (fun _ => ?_)); (case t => walk_at "fr"))
  | ((with_reducible refine' c_eqDI ?t ?g ?_); (case t => walk_at "fr"); (case g => walk_at "fr"))
  | ((with_reducible refine' c_tupTu ?t ?_); (case t => walk_at "fr0"))
  | ((with_reducible refine' e_xf ?t ?l ?s ?_); (case t => walk_at "fr0"); (case l => rfl); (case s => with_unfolding_all exact rfl))
  | ((with_reducible refine' c_isiO ?t ?h ?_); (case t => walk_at "fr0"); (case h => first | exact .inl ⟨rfl, rfl⟩ | exact .inr (.inl ⟨rfl, rfl⟩) | exact .inr (.inr ⟨rfl, rfl⟩)))
  | (with_reducible first | refine e_m1a ?_ | refine c_ixS $(Lean.mkIdent `hm) (fun _ $(Lean.mkIdent `hm) => ?_) | refine c_slS $(Lean.mkIdent `hm) (fun $(Lean.mkIdent `hm) => ?_) | refine c_addS $(Lean.mkIdent `hm) (fun $(Lean.mkIdent `hm) => ?_) | refine c_lenS $(Lean.mkIdent `hm) (fun $(Lean.mkIdent `hm) => ?_) | refine c_inSg ?_ | refine c_niSg ?_ | refine c_intS $(Lean.mkIdent `hm) (fun _ $(Lean.mkIdent `hm) => ?_) | refine c_strI $(Lean.mkIdent `hm) (fun $(Lean.mkIdent `hm) => ?_) | refine c_fmtI $(Lean.mkIdent `hm) (fun $(Lean.mkIdent `hm) => ?_))
  | ((with_reducible refine' c_jsI $(Lean.mkIdent `hm) ?h (fun $(Lean.mkIdent `hm) => ?_)); (case h => exact Nat.le_of_ble_eq_true rfl))
  | ((with_reducible refine' c_split (K := $(Lean.mkIdent `K)) $(Lean.mkIdent `hm) ?h ?g (fun $(Lean.mkIdent `hm) _ => ?_)); (case h => decide +kernel); (case g => decide +kernel))
  | ((with_reducible refine' c_join $(Lean.mkIdent `hm) ?h ?t (fun $(Lean.mkIdent `hm) => ?_)); (case h => decide +kernel); (case t => walk_at "fr"))
  | ((with_reducible refine' c_sumTv ?h ?_); (case h => walk_at "el"))
  | walk_at "vts"
  | (with_reducible refine e_kget0 ?_)
  | ((with_reducible refine' c_kget1 ?t ?_); (case t => walk_at "ktt"))
  | (with_reducible first | refine c_kget2S ?_ | refine c_kget2I ?_)
  | (with_reducible first | refine e_disp (fun _ => ?_) | refine e_pairC ?_ | refine e_pairN ?_ | refine e_pairK ?_)
  | ((with_reducible refine' e_newT ?h fun _ => ?_); (case h => walk_at "sz"))
  | ((with_reducible refine' e_newL ?h fun _ => ?_); (case h => walk_at "sz"))
  | ((with_reducible refine' c_all2 $(Lean.mkIdent `hm) ?t ?g (fun $(Lean.mkIdent `hm) => ?_)); (case t => walk_at "fr"); (case g => walk_at "fr"))
  | ((with_reducible refine' c_set $(Lean.mkIdent `hm) ?t ?y (fun j $(Lean.mkIdent `hm) => ?_)); (case t => walk_at "fr"); (case y => walk_at "el"))
  | ((with_reducible refine' e_slLs ?h fun _ => ?_); (case h => walk_at "fr"))
  | ((with_reducible refine' e_revLs ?h fun _ => ?_); (case h => walk_at "fr"))
  | ((with_reducible refine' e_newK ?h ?g fun _ _ => ?_); (case h => rfl); (case g => rfl))
  | ((with_reducible refine' c_slKT ?t (fun _ => ?_)); (case t => walk_at "fr0"))
  | walk_at "frz"
  | walk_at "tslc"
  | walk_at "dk1"
  | (with_reducible refine c_rgLs (K := $(Lean.mkIdent `K)) $(Lean.mkIdent `hm) (fun $(Lean.mkIdent `hm) _ => ?_))
  | (with_reducible first | refine e_lcR10 ?_ | refine e_lcR20 ?_)
  | (with_reducible refine e_exb ?_)
  | walk_at "sF" | walk_at "man" | walk_at "lc")
open PySem L2 Toy in
local macro_rules | `(tactic| walk_at "gst") => `(tactic| first
  | (with_reducible refine c_sok $(Lean.mkIdent `hm) (fun _ $(Lean.mkIdent `hm) => ?_))
  | ((with_reducible refine' c_get $(Lean.mkIdent `hm) ?t (fun w $(Lean.mkIdent `hm) e => ?_)); (case t => walk_at "fr0"); cases e)
  | ((with_reducible refine' c_getOS $(Lean.mkIdent `hm) ?t (fun w $(Lean.mkIdent `hm) e => ?_)); (case t => walk_at "fr0"); cases e)
  | ((with_reducible refine' c_getV $(Lean.mkIdent `hm) ?t (fun w $(Lean.mkIdent `hm) => ?_)); (case t => walk_at "fr0"))
  | ((with_reducible refine' c_getO $(Lean.mkIdent `hm) ?t (fun w $(Lean.mkIdent `hm) _ => ?_)); (case t => walk_at "fr0"))
  | ((with_reducible refine' c_getU0T $(Lean.mkIdent `hm) ?t (fun w $(Lean.mkIdent `hm) e _ => ?_)); (case t => walk_at "fr0"); cases e)
  | ((with_reducible refine' c_getU0S $(Lean.mkIdent `hm) ?t (fun w $(Lean.mkIdent `hm) e => ?_)); (case t => walk_at "fr0"); cases e)
  | ((with_reducible refine' c_getU0 $(Lean.mkIdent `hm) ?t (fun w $(Lean.mkIdent `hm) => ?_)); (case t => walk_at "fr0"))
  | ((with_reducible refine' c_getU1I $(Lean.mkIdent `hm) ?t (fun w $(Lean.mkIdent `hm) e => ?_)); (case t => walk_at "fr0"); cases e)
  | ((with_reducible refine' c_getU1 $(Lean.mkIdent `hm) ?t (fun w $(Lean.mkIdent `hm) => ?_)); (case t => walk_at "fr0"))
  | ((with_reducible refine gS ?_); first | walk_at "sS" | (with_reducible first | refine e_forR2 ?_ | refine e_forZA ?_ | refine e_forZM ?_ | refine e_forZN0 ?_ | refine e_forET ?_ | refine e_dput0 ?_))
  | ((with_reducible refine gE ?_); first | walk_at "sE" | ((with_reducible refine' e_lcSv ?h ?_); (case h => rfl)) | walk_at "lcS" | (with_reducible refine e_lcT0 ?_) | (with_reducible refine e_lcKD0 ?_) | (with_reducible refine e_makeS ?_) | ((with_reducible refine e_lcF0 ?_)) | ((with_reducible refine' e_callX0 ?h ?g ?_); (case h => with_unfolding_all exact rfl); (case g => exact ⟨_, rfl, rfl⟩)) | ((with_reducible refine' e_js20 ?h ?_); (case h => exact Nat.le_of_ble_eq_true rfl)) | (with_reducible first | refine e_m1 ?_ | refine e_lsi0 ?_ | refine e_lst0 ?_ | refine e_fmt0 ?_ | refine e_lcSt0 ?_ | refine e_callNS0 ?_ | refine e_dget0 ?_ | refine e_dnew (fun _ => ?_) | refine e_dpop0 ?_ | refine e_dg20 ?_) | ((with_reducible refine e_frz0 ?_)) | walk_at "cE")
  | ((with_reducible refine gT ?_); walk_at "gT1")
  | ((with_reducible refine gA ?_); walk_at "sA")
  | ((with_reducible refine gX ?_); walk_at "sX")
  | ((with_reducible refine gI ?_); (with_reducible first | refine eT ?_ | refine eF ?_ | refine eNT ?_ | refine eNF ?_))
  | ((with_reducible refine gR ?_); walk_at "gR1")
  | ((with_reducible refine gC ?_); walk_at "gC1")
  | ((with_reducible refine gM ?_); walk_at "gM1")
  | ((with_reducible refine gG ?_); walk_at "gG1")
  | ((with_reducible refine gN ?_); first | ((with_reducible refine' e_ln ?h ?_); (case h => rfl); (try simp only [List.getD_cons_zero, List.getD_cons_succ])) | walk_at "sN")
  | walk_at "gO1")
open PySem L2 Toy in
local macro_rules | `(tactic| walk_at "if") => `(tactic| first
  | (with_reducible first | refine c_if $(Lean.mkIdent `hm) (fun $(Lean.mkIdent `hm) => ?_) (fun $(Lean.mkIdent `hm) => ?_) | refine c_ifN $(Lean.mkIdent `hm) (fun $(Lean.mkIdent `hm) => ?_) (fun $(Lean.mkIdent `hm) => ?_) | refine c_ifB $(Lean.mkIdent `hm) (fun $(Lean.mkIdent `hm) => ?_) (fun $(Lean.mkIdent `hm) => ?_) | refine c_ifNB $(Lean.mkIdent `hm) (fun $(Lean.mkIdent `hm) => ?_) (fun $(Lean.mkIdent `hm) => ?_))
  | (refine c_if $(Lean.mkIdent `hm) (fun $(Lean.mkIdent `hm) => ?_) (fun $(Lean.mkIdent `hm) => ?_))
  | (refine c_ifN $(Lean.mkIdent `hm) (fun $(Lean.mkIdent `hm) => ?_) (fun $(Lean.mkIdent `hm) => ?_))
  | (refine c_ifB $(Lean.mkIdent `hm) (fun $(Lean.mkIdent `hm) => ?_) (fun $(Lean.mkIdent `hm) => ?_))
  | (refine c_ifNB $(Lean.mkIdent `hm) (fun $(Lean.mkIdent `hm) => ?_) (fun $(Lean.mkIdent `hm) => ?_)))
open PySem L2 Toy in
local macro_rules | `(tactic| walk_at "exo") => `(tactic| first
  | exact False.elim $(Lean.mkIdent `hm)
  | ((with_reducible refine' Ent.sub ?sxo ($(Lean.mkIdent `qx) $(Lean.mkIdent `hm) _)); (case sxo => walk_at "sub"))
  | ((refine' e_only ?hxo (fun _ => ?_)); (case hxo => walk_at "xes"); repeat (walk_at "go"))
  | ((refine' e_as ?hxo (fun _ => ?_)); (case hxo => walk_at "xes"); (try dsimp only); repeat (walk_at "go")))
open PySem L2 Toy in
local macro_rules | `(tactic| walk_at "fin") => `(tactic| first
  | ((with_reducible refine' Ent.sub ?s ($(Lean.mkIdent `qx) $(Lean.mkIdent `hm) _)); (case s => walk_at "sub"))
  | ((with_reducible refine' Ent.sub ?s ($(Lean.mkIdent `q) _ $(Lean.mkIdent `hm))); (case s => walk_at "sub"))
  | ((with_reducible refine' Ent.sub ?s ($(Lean.mkIdent `q) _ $(Lean.mkIdent `hm) _)); (case s => walk_at "sub"))
  | ((with_reducible refine' Ent.sub ?s ($(Lean.mkIdent `q) _ $(Lean.mkIdent `hm) _ _)); (case s => walk_at "sub"))
  | ((with_reducible refine' Ent.sub ?s ($(Lean.mkIdent `q) _ $(Lean.mkIdent `hm) _ _ _)); (case s => walk_at "sub"))
  | ((with_reducible refine' Ent.sub ?s ($(Lean.mkIdent `q) _ $(Lean.mkIdent `hm) _ _ _ _)); (case s => walk_at "sub"))
  | ((with_reducible refine' Ent.sub ?s ($(Lean.mkIdent `q1) _ _ $(Lean.mkIdent `hm))); (case s => walk_at "sub"))
  | ((with_reducible refine' Ent.sub ?s ($(Lean.mkIdent `q1) _ _ _ $(Lean.mkIdent `hm))); (case s => walk_at "sub"))
  | ((with_reducible refine' Ent.sub ?s ($(Lean.mkIdent `q2) $(Lean.mkIdent `hm))); (case s => walk_at "sub"))
  | ((with_reducible refine' Ent.sub ?s ($(Lean.mkIdent `q2) _ $(Lean.mkIdent `hm))); (case s => walk_at "sub"))
  | ((with_reducible refine' c_endT $(Lean.mkIdent `hm) ?s); (case s => walk_at "sub"))
  | ((with_reducible refine' c_endE $(Lean.mkIdent `hm) ?s); (case s => walk_at "sub"))
  | ((with_reducible refine' c_endL $(Lean.mkIdent `hm) ?s); (case s => walk_at "sub"))
  | ((with_reducible refine' c_endS $(Lean.mkIdent `hm) ?s); (case s => walk_at "sub"))
  | ((with_reducible refine' c_end $(Lean.mkIdent `hm) () ?h ?s); (case h => first | rfl | ((try dsimp only); rfl)); (case s => ((try dsimp only); walk_at "sub")))
  | ((with_reducible refine' c_end $(Lean.mkIdent `hm) (_, _, _, _, _, _, _, _, _, _, _, _, _, _, _, _, _, _, _, _, _, _, _, _, _, _, _, _, _, _) ?h ?s); (case h => ((try dsimp only); rfl)); (case s => ((try dsimp only); walk_at "sub")))
  | ((with_reducible refine' c_end $(Lean.mkIdent `hm) (_, _, _, _, _, _, _, _, _, _, _, _, _, _, _, _, _, _, _, _, _, _, _, _, _, _, _, _, _) ?h ?s); (case h => ((try dsimp only); rfl)); (case s => ((try dsimp only); walk_at "sub")))
  | ((with_reducible refine' c_end $(Lean.mkIdent `hm) (_, _, _, _, _, _, _, _, _, _, _, _, _, _, _, _, _, _, _, _, _, _, _, _, _, _, _, _) ?h ?s); (case h => ((try dsimp only); rfl)); (case s => ((try dsimp only); walk_at "sub")))
  | ((with_reducible refine' c_end $(Lean.mkIdent `hm) (_, _, _, _, _, _, _, _, _, _, _, _, _, _, _, _, _, _, _, _, _, _, _, _, _, _, _) ?h ?s); (case h => ((try dsimp only); rfl)); (case s => ((try dsimp only); walk_at "sub")))
  | ((with_reducible refine' c_end $(Lean.mkIdent `hm) (_, _, _, _, _, _, _, _, _, _, _, _, _, _, _, _, _, _, _, _, _, _, _, _, _, _) ?h ?s); (case h => ((try dsimp only); rfl)); (case s => ((try dsimp only); walk_at "sub")))
  | ((with_reducible refine' c_end $(Lean.mkIdent `hm) (_, _, _, _, _, _, _, _, _, _, _, _, _, _, _, _, _, _, _, _, _, _, _, _, _) ?h ?s); (case h => ((try dsimp only); rfl)); (case s => ((try dsimp only); walk_at "sub")))
  | ((with_reducible refine' c_end $(Lean.mkIdent `hm) (_, _, _, _, _, _, _, _, _, _, _, _, _, _, _, _, _, _, _, _, _, _, _, _) ?h ?s); (case h => ((try dsimp only); rfl)); (case s => ((try dsimp only); walk_at "sub")))
  | ((with_reducible refine' c_end $(Lean.mkIdent `hm) (_, _, _, _, _, _, _, _, _, _, _, _, _, _, _, _, _, _, _, _, _, _, _) ?h ?s); (case h => ((try dsimp only); rfl)); (case s => ((try dsimp only); walk_at "sub")))
  | ((with_reducible refine' c_end $(Lean.mkIdent `hm) (_, _, _, _, _, _, _, _, _, _, _, _, _, _, _, _, _, _, _, _, _, _) ?h ?s); (case h => ((try dsimp only); rfl)); (case s => ((try dsimp only); walk_at "sub")))
  | ((with_reducible refine' c_end $(Lean.mkIdent `hm) (_, _, _, _, _, _, _, _, _, _, _, _, _, _, _, _, _, _, _, _, _) ?h ?s); (case h => ((try dsimp only); rfl)); (case s => ((try dsimp only); walk_at "sub")))
  | ((with_reducible refine' c_end $(Lean.mkIdent `hm) (_, _, _, _, _, _, _, _, _, _, _, _, _, _, _, _, _, _, _, _) ?h ?s); (case h => ((try dsimp only); rfl)); (case s => ((try dsimp only); walk_at "sub")))
  | ((with_reducible refine' c_end $(Lean.mkIdent `hm) (_, _, _, _, _, _, _, _, _, _, _, _, _, _, _, _, _, _, _) ?h ?s); (case h => ((try dsimp only); rfl)); (case s => ((try dsimp only); walk_at "sub")))
  | ((with_reducible refine' c_end $(Lean.mkIdent `hm) (_, _, _, _, _, _, _, _, _, _, _, _, _, _, _, _, _, _) ?h ?s); (case h => ((try dsimp only); rfl)); (case s => ((try dsimp only); walk_at "sub")))
  | ((with_reducible refine' c_end $(Lean.mkIdent `hm) (_, _, _, _, _, _, _, _, _, _, _, _, _, _, _, _, _) ?h ?s); (case h => ((try dsimp only); rfl)); (case s => ((try dsimp only); walk_at "sub")))
  | ((with_reducible refine' c_end $(Lean.mkIdent `hm) (_, _, _, _, _, _, _, _, _, _, _, _, _, _, _, _) ?h ?s); (case h => ((try dsimp only); rfl)); (case s => ((try dsimp only); walk_at "sub")))
  | ((with_reducible refine' c_end $(Lean.mkIdent `hm) (_, _, _, _, _, _, _, _, _, _, _, _, _, _, _) ?h ?s); (case h => ((try dsimp only); rfl)); (case s => ((try dsimp only); walk_at "sub")))
  | ((with_reducible refine' c_end $(Lean.mkIdent `hm) (_, _, _, _, _, _, _, _, _, _, _, _, _, _) ?h ?s); (case h => ((try dsimp only); rfl)); (case s => ((try dsimp only); walk_at "sub")))
  | ((with_reducible refine' c_end $(Lean.mkIdent `hm) (_, _, _, _, _, _, _, _, _, _, _, _, _) ?h ?s); (case h => ((try dsimp only); rfl)); (case s => ((try dsimp only); walk_at "sub")))
  | ((with_reducible refine' c_end $(Lean.mkIdent `hm) (_, _, _, _, _, _, _, _, _, _, _, _) ?h ?s); (case h => ((try dsimp only); rfl)); (case s => ((try dsimp only); walk_at "sub")))
  | ((with_reducible refine' c_end $(Lean.mkIdent `hm) (_, _, _, _, _, _, _, _, _, _, _) ?h ?s); (case h => ((try dsimp only); rfl)); (case s => ((try dsimp only); walk_at "sub")))
  | ((with_reducible refine' c_end $(Lean.mkIdent `hm) (_, _, _, _, _, _, _, _, _, _) ?h ?s); (case h => ((try dsimp only); rfl)); (case s => ((try dsimp only); walk_at "sub")))
  | ((with_reducible refine' c_end $(Lean.mkIdent `hm) (_, _, _, _, _, _, _, _, _) ?h ?s); (case h => ((try dsimp only); rfl)); (case s => ((try dsimp only); walk_at "sub")))
  | ((with_reducible refine' c_end $(Lean.mkIdent `hm) (_, _, _, _, _, _, _, _) ?h ?s); (case h => ((try dsimp only); rfl)); (case s => ((try dsimp only); walk_at "sub")))
  | ((with_reducible refine' c_end $(Lean.mkIdent `hm) (_, _, _, _, _, _, _) ?h ?s); (case h => ((try dsimp only); rfl)); (case s => ((try dsimp only); walk_at "sub")))
  | ((with_reducible refine' c_end $(Lean.mkIdent `hm) (_, _, _, _, _, _) ?h ?s); (case h => ((try dsimp only); rfl)); (case s => ((try dsimp only); walk_at "sub")))
  | ((with_reducible refine' c_end $(Lean.mkIdent `hm) (_, _, _, _, _) ?h ?s); (case h => ((try dsimp only); rfl)); (case s => ((try dsimp only); walk_at "sub")))
  | ((with_reducible refine' c_end $(Lean.mkIdent `hm) (_, _, _, _) ?h ?s); (case h => ((try dsimp only); rfl)); (case s => ((try dsimp only); walk_at "sub")))
  | ((with_reducible refine' c_end $(Lean.mkIdent `hm) (_, _, _) ?h ?s); (case h => ((try dsimp only); rfl)); (case s => ((try dsimp only); walk_at "sub")))
  | ((with_reducible refine' c_end $(Lean.mkIdent `hm) (_, _) ?h ?s); (case h => ((try dsimp only); rfl)); (case s => ((try dsimp only); walk_at "sub")))
  | ((with_reducible refine' c_end $(Lean.mkIdent `hm) _ ?h ?s); (case h => ((try dsimp only); rfl)); (case s => ((try dsimp only); walk_at "sub")))
  | ((with_reducible refine' c_brk $(Lean.mkIdent `hbk) $(Lean.mkIdent `hm) () ?h ?s); (case h => ((try dsimp only); rfl)); (case s => ((try dsimp only); walk_at "sub")))
  | ((with_reducible refine' c_brk $(Lean.mkIdent `hbk) $(Lean.mkIdent `hm) (_, _, _, _, _, _, _, _, _, _, _, _, _, _, _, _, _, _, _, _, _, _, _, _, _, _, _, _, _, _) ?h ?s); (case h => ((try dsimp only); rfl)); (case s => ((try dsimp only); walk_at "sub")))
  | ((with_reducible refine' c_brk $(Lean.mkIdent `hbk) $(Lean.mkIdent `hm) (_, _, _, _, _, _, _, _, _, _, _, _, _, _, _, _, _, _, _, _, _, _, _, _, _, _, _, _, _) ?h ?s); (case h => ((try dsimp only); rfl)); (case s => ((try dsimp only); walk_at "sub")))
  | ((with_reducible refine' c_brk $(Lean.mkIdent `hbk) $(Lean.mkIdent `hm) (_, _, _, _, _, _, _, _, _, _, _, _, _, _, _, _, _, _, _, _, _, _, _, _, _, _, _, _) ?h ?s); (case h => ((try dsimp only); rfl)); (case s => ((try dsimp only); walk_at "sub")))
  | ((with_reducible refine' c_brk $(Lean.mkIdent `hbk) $(Lean.mkIdent `hm) (_, _, _, _, _, _, _, _, _, _, _, _, _, _, _, _, _, _, _, _, _, _, _, _, _, _, _) ?h ?s); (case h => ((try dsimp only); rfl)); (case s => ((try dsimp only); walk_at "sub")))
  | ((with_reducible refine' c_brk $(Lean.mkIdent `hbk) $(Lean.mkIdent `hm) (_, _, _, _, _, _, _, _, _, _, _, _, _, _, _, _, _, _, _, _, _, _, _, _, _, _) ?h ?s); (case h => ((try dsimp only); rfl)); (case s => ((try dsimp only); walk_at "sub")))
  | ((with_reducible refine' c_brk $(Lean.mkIdent `hbk) $(Lean.mkIdent `hm) (_, _, _, _, _, _, _, _, _, _, _, _, _, _, _, _, _, _, _, _, _, _, _, _, _) ?h ?s); (case h => ((try dsimp only); rfl)); (case s => ((try dsimp only); walk_at "sub")))
  | ((with_reducible refine' c_brk $(Lean.mkIdent `hbk) $(Lean.mkIdent `hm) (_, _, _, _, _, _, _, _, _, _, _, _, _, _, _, _, _, _, _, _, _, _, _, _) ?h ?s); (case h => ((try dsimp only); rfl)); (case s => ((try dsimp only); walk_at "sub")))
  | ((with_reducible refine' c_brk $(Lean.mkIdent `hbk) $(Lean.mkIdent `hm) (_, _, _, _, _, _, _, _, _, _, _, _, _, _, _, _, _, _, _, _, _, _, _) ?h ?s); (case h => ((try dsimp only); rfl)); (case s => ((try dsimp only); walk_at "sub")))
  | ((with_reducible refine' c_brk $(Lean.mkIdent `hbk) $(Lean.mkIdent `hm) (_, _, _, _, _, _, _, _, _, _, _, _, _, _, _, _, _, _, _, _, _, _) ?h ?s); (case h => ((try dsimp only); rfl)); (case s => ((try dsimp only); walk_at "sub")))
  | ((with_reducible refine' c_brk $(Lean.mkIdent `hbk) $(Lean.mkIdent `hm) (_, _, _, _, _, _, _, _, _, _, _, _, _, _, _, _, _, _, _, _, _) ?h ?s); (case h => ((try dsimp only); rfl)); (case s => ((try dsimp only); walk_at "sub")))
  | ((with_reducible refine' c_brk $(Lean.mkIdent `hbk) $(Lean.mkIdent `hm) (_, _, _, _, _, _, _, _, _, _, _, _, _, _, _, _, _, _, _, _) ?h ?s); (case h => ((try dsimp only); rfl)); (case s => ((try dsimp only); walk_at "sub")))
  | ((with_reducible refine' c_brk $(Lean.mkIdent `hbk) $(Lean.mkIdent `hm) (_, _, _, _, _, _, _, _, _, _, _, _, _, _, _, _, _, _, _) ?h ?s); (case h => ((try dsimp only); rfl)); (case s => ((try dsimp only); walk_at "sub")))
  | ((with_reducible refine' c_brk $(Lean.mkIdent `hbk) $(Lean.mkIdent `hm) (_, _, _, _, _, _, _, _, _, _, _, _, _, _, _, _, _, _) ?h ?s); (case h => ((try dsimp only); rfl)); (case s => ((try dsimp only); walk_at "sub")))
  | ((with_reducible refine' c_brk $(Lean.mkIdent `hbk) $(Lean.mkIdent `hm) (_, _, _, _, _, _, _, _, _, _, _, _, _, _, _, _, _) ?h ?s); (case h => ((try dsimp only); rfl)); (case s => ((try dsimp only); walk_at "sub")))
  | ((with_reducible refine' c_brk $(Lean.mkIdent `hbk) $(Lean.mkIdent `hm) (_, _, _, _, _, _, _, _, _, _, _, _, _, _, _, _) ?h ?s); (case h => ((try dsimp only); rfl)); (case s => ((try dsimp only); walk_at "sub")))
  | ((with_reducible refine' c_brk $(Lean.mkIdent `hbk) $(Lean.mkIdent `hm) (_, _, _, _, _, _, _, _, _, _, _, _, _, _, _) ?h ?s); (case h => ((try dsimp only); rfl)); (case s => ((try dsimp only); walk_at "sub")))
  | ((with_reducible refine' c_brk $(Lean.mkIdent `hbk) $(Lean.mkIdent `hm) (_, _, _, _, _, _, _, _, _, _, _, _, _, _) ?h ?s); (case h => ((try dsimp only); rfl)); (case s => ((try dsimp only); walk_at "sub")))
  | ((with_reducible refine' c_brk $(Lean.mkIdent `hbk) $(Lean.mkIdent `hm) (_, _, _, _, _, _, _, _, _, _, _, _, _) ?h ?s); (case h => ((try dsimp only); rfl)); (case s => ((try dsimp only); walk_at "sub")))
  | ((with_reducible refine' c_brk $(Lean.mkIdent `hbk) $(Lean.mkIdent `hm) (_, _, _, _, _, _, _, _, _, _, _, _) ?h ?s); (case h => ((try dsimp only); rfl)); (case s => ((try dsimp only); walk_at "sub")))
  | ((with_reducible refine' c_brk $(Lean.mkIdent `hbk) $(Lean.mkIdent `hm) (_, _, _, _, _, _, _, _, _, _, _) ?h ?s); (case h => ((try dsimp only); rfl)); (case s => ((try dsimp only); walk_at "sub")))
  | ((with_reducible refine' c_brk $(Lean.mkIdent `hbk) $(Lean.mkIdent `hm) (_, _, _, _, _, _, _, _, _, _) ?h ?s); (case h => ((try dsimp only); rfl)); (case s => ((try dsimp only); walk_at "sub")))
  | ((with_reducible refine' c_brk $(Lean.mkIdent `hbk) $(Lean.mkIdent `hm) (_, _, _, _, _, _, _, _, _) ?h ?s); (case h => ((try dsimp only); rfl)); (case s => ((try dsimp only); walk_at "sub")))
  | ((with_reducible refine' c_brk $(Lean.mkIdent `hbk) $(Lean.mkIdent `hm) (_, _, _, _, _, _, _, _) ?h ?s); (case h => ((try dsimp only); rfl)); (case s => ((try dsimp only); walk_at "sub")))
  | ((with_reducible refine' c_brk $(Lean.mkIdent `hbk) $(Lean.mkIdent `hm) (_, _, _, _, _, _, _) ?h ?s); (case h => ((try dsimp only); rfl)); (case s => ((try dsimp only); walk_at "sub")))
  | ((with_reducible refine' c_brk $(Lean.mkIdent `hbk) $(Lean.mkIdent `hm) (_, _, _, _, _, _) ?h ?s); (case h => ((try dsimp only); rfl)); (case s => ((try dsimp only); walk_at "sub")))
  | ((with_reducible refine' c_brk $(Lean.mkIdent `hbk) $(Lean.mkIdent `hm) (_, _, _, _, _) ?h ?s); (case h => ((try dsimp only); rfl)); (case s => ((try dsimp only); walk_at "sub")))
  | ((with_reducible refine' c_brk $(Lean.mkIdent `hbk) $(Lean.mkIdent `hm) (_, _, _, _) ?h ?s); (case h => ((try dsimp only); rfl)); (case s => ((try dsimp only); walk_at "sub")))
  | ((with_reducible refine' c_brk $(Lean.mkIdent `hbk) $(Lean.mkIdent `hm) (_, _, _) ?h ?s); (case h => ((try dsimp only); rfl)); (case s => ((try dsimp only); walk_at "sub")))
  | ((with_reducible refine' c_brk $(Lean.mkIdent `hbk) $(Lean.mkIdent `hm) (_, _) ?h ?s); (case h => ((try dsimp only); rfl)); (case s => ((try dsimp only); walk_at "sub")))
  | ((with_reducible refine' c_brk $(Lean.mkIdent `hbk) $(Lean.mkIdent `hm) _ ?h ?s); (case h => ((try dsimp only); rfl)); (case s => ((try dsimp only); walk_at "sub")))
  | exact rt_law $(Lean.mkIdent `hm) $(Lean.mkIdent `q)
  | exact False.elim $(Lean.mkIdent `hm))
open PySem L2 Toy in
local macro_rules | `(tactic| walk_at "go") => `(tactic| first | walk_at "gst" | walk_at "if" | walk_at "fin")
open PySem L2 Toy in
local macro_rules | `(tactic| walk_at "subRn1") => `(tactic| first
  | (with_reducible exact Sub.refl)
  | ((with_reducible refine' Sub.is ?h ?m); (case h => walk_at "el"); (case m => walk_at "subRn1"))
  | ((with_reducible refine' Sub.take (Take.keep ?t) ?m); (case t => walk_at "fr0"); (case m => walk_at "subRn1"))
  | ((with_reducible refine' Sub.take ?t ?m); (case t => walk_at "fr1"); (case m => walk_at "subRn1"))
  | ((refine' Sub.take (take_eq ?e ?t) ?m); (case t => walk_at "fr0"); (case e => with_unfolding_all rfl); (case m => walk_at "subRn1"))
  | ((with_reducible refine' Sub.oNone ?m); (case m => walk_at "subRn1"))
  | ((with_reducible refine' Sub.oSome ?m); (case m => walk_at "subRn1"))
  | ((with_reducible refine' Sub.oI ?m); (case m => walk_at "subRn1"))
  | ((with_reducible refine' Sub.oE ?m); (case m => walk_at "subRn1"))
  | ((with_reducible refine' Sub.oC ?m); (case m => walk_at "subRn1"))
  | ((with_reducible refine' Sub.oC1 ?m); (case m => walk_at "subRn1"))
  | ((with_reducible refine' Sub.oSomeE ?e ?m); (case e => (with_reducible assumption)); (case m => walk_at "subRn1"))
  | ((with_reducible refine' Sub.oTt ?t ?m); (case t => walk_at "fr0"); (case m => walk_at "subRn1")))
open PySem L2 Toy in
local macro_rules | `(tactic| walk_at "subRn") => `(tactic| ((try simp only [List.cons_append, List.nil_append]); walk_at "subRn1"))
namespace Toy
open PySem L2 PyProof.Rows
def D_BOUNDS : List (Str × (Int × Int × Int)) := [("fetch", ((1 : Int), (4 : Int), (2 : Int))), ("issue", ((1 : Int), (4 : Int), (2 : Int))), ("retire", ((1 : Int), (4 : Int), (2 : Int))), ("reorder", ((2 : Int), (32 : Int), (8 : Int))), ("stations", ((1 : Int), (16 : Int), (4 : Int))), ("loads", ((1 : Int), (8 : Int), (4 : Int))), ("stores", ((1 : Int), (8 : Int), (4 : Int))), ("physical", ((9 : Int), (48 : Int), (16 : Int))), ("queue", ((1 : Int), (8 : Int), (4 : Int))), ("line", ((1 : Int), (16 : Int), (4 : Int))), ("sets1", ((1 : Int), (8 : Int), (2 : Int))), ("ways1", ((1 : Int), (4 : Int), (1 : Int))), ("sets2", ((1 : Int), (16 : Int), (4 : Int))), ("ways2", ((1 : Int), (4 : Int), (2 : Int))), ("wait2", ((0 : Int), (9 : Int), (2 : Int))), ("waitm", ((0 : Int), (20 : Int), (6 : Int))), ("times", ((1 : Int), (8 : Int), (3 : Int))), ("over", ((1 : Int), (16 : Int), (6 : Int))), ("buffer", ((1 : Int), (16 : Int), (4 : Int))), ("targets", ((1 : Int), (16 : Int), (4 : Int))), ("counters", ((1 : Int), (32 : Int), (8 : Int))), ("returns", ((0 : Int), (8 : Int), (2 : Int))), ("whim", ((0 : Int), (4 : Int), (0 : Int))), ("twist", ((0 : Int), (1 : Int), (0 : Int)))]
theorem c_ixQ_BOUNDS {K : PySem.W.Frag} {w : World} {L : List HA} {Q : VK} {d : Addr} {s : Str} {k : (Int × Int × Int) → Prop} (hm : obx (dlk D_BOUNDS s) k) (t : KTabQ K w (fun v : Int × Int × Int => [V.int v.1, V.int v.2.1, V.int v.2.2]) d D_BOUNDS) (q : ∀ x, k x → ∀ c, Ent (tq K c [V.int x.1, V.int x.2.1, V.int x.2.2] :: L) (Q (.ref c))) : Ent L fun H => rIxD K w (.ref d) (.str s) H Q := c_ixDQ hm t q
def top (i : Nat) : Stmt := PySem.Challenge.pw_orderlycore_k13_whole_settings_told.main.body.getD i (.Pass ⟨0, 0, 0, 0⟩)
abbrev s_CoreError___init__ : Stmt := inClass (top 1) 0
theorem sc_CoreError___init__ : FnScope ["self", "value"] ["self", "value"] (defScope s_CoreError___init__) := ⟨rfl, rfl, rfl, by decide +kernel, rfl, by decide +kernel, by decide +kernel⟩
abbrev s_is_integer : Stmt := top 6
theorem sc_is_integer : FnScope ["value"] ["value"] (defScope s_is_integer) := ⟨rfl, rfl, rfl, by decide +kernel, rfl, by decide +kernel, by decide +kernel⟩
abbrev s_is_count : Stmt := top 7
theorem sc_is_count : FnScope ["value"] ["value"] (defScope s_is_count) := ⟨rfl, rfl, rfl, by decide +kernel, rfl, by decide +kernel, by decide +kernel⟩
abbrev s_is_list : Stmt := top 8
theorem sc_is_list : FnScope ["value"] ["value"] (defScope s_is_list) := ⟨rfl, rfl, rfl, by decide +kernel, rfl, by decide +kernel, by decide +kernel⟩
abbrev s_is_value : Stmt := top 12
theorem sc_is_value : FnScope ["name", "number"] ["name", "number"] (defScope s_is_value) := ⟨rfl, rfl, rfl, by decide +kernel, rfl, by decide +kernel, by decide +kernel⟩
abbrev s_is_told : Stmt := top 13
theorem sc_is_told : FnScope ["value"] ["value"] (defScope s_is_told) := ⟨rfl, rfl, rfl, by decide +kernel, rfl, by decide +kernel, by decide +kernel⟩
abbrev s_Settings___init__ : Stmt := inClass (top 14) 0
theorem sc_Settings___init__ : FnScope ["self", "values", "names", "one", "name"] ["self", "values"] (defScope s_Settings___init__) := ⟨rfl, rfl, rfl, by decide +kernel, rfl, by decide +kernel, by decide +kernel⟩
abbrev s_Settings_value : Stmt := inClass (top 14) 1
theorem sc_Settings_value : FnScope ["self", "name"] ["self", "name"] (defScope s_Settings_value) := ⟨rfl, rfl, rfl, by decide +kernel, rfl, by decide +kernel, by decide +kernel⟩
abbrev s_Settings_told : Stmt := inClass (top 14) 2
theorem sc_Settings_told : FnScope ["self"] ["self"] (defScope s_Settings_told) := ⟨rfl, rfl, rfl, by decide +kernel, rfl, by decide +kernel, by decide +kernel⟩
abbrev s_Settings___eq__ : Stmt := inClass (top 14) 3
theorem sc_Settings___eq__ : FnScope ["self", "other"] ["self", "other"] (defScope s_Settings___eq__) := ⟨rfl, rfl, rfl, by decide +kernel, rfl, by decide +kernel, by decide +kernel⟩
abbrev s__law_pot : Stmt := top 16
theorem sc__law_pot : FnScope ["_law_script", "_law_k", "_law_cell"] ["_law_script", "_law_k"] (defScope s__law_pot) := ⟨rfl, rfl, rfl, by decide +kernel, rfl, by decide +kernel, by decide +kernel⟩
abbrev s__law_draw : Stmt := top 17
theorem sc__law_draw : FnScope ["_law_pot_here", "_law_size", "_law_digit"] ["_law_pot_here", "_law_size"] (defScope s__law_draw) := ⟨rfl, rfl, rfl, by decide +kernel, rfl, by decide +kernel, by decide +kernel⟩
abbrev s__law_pick : Stmt := top 18
theorem sc__law_pick : FnScope ["_law_pot_here", "_law_some"] ["_law_pot_here", "_law_some"] (defScope s__law_pick) := ⟨rfl, rfl, rfl, by decide +kernel, rfl, by decide +kernel, by decide +kernel⟩
abbrev s__law_table : Stmt := top 19
theorem sc__law_table : FnScope ["_law_found"] [] (defScope s__law_table) := ⟨rfl, rfl, rfl, by decide +kernel, rfl, by decide +kernel, by decide +kernel⟩
abbrev s__law_is_let : Stmt := top 20
theorem sc__law_is_let : FnScope ["_law_name", "_law_least", "_law_most", "_law_number"] ["_law_name", "_law_least", "_law_most", "_law_number"] (defScope s__law_is_let) := ⟨rfl, rfl, rfl, by decide +kernel, rfl, by decide +kernel, by decide +kernel⟩
abbrev s__law_refused : Stmt := top 21
theorem sc__law_refused : FnScope ["_law_values_here", "_law_told", "e"] ["_law_values_here"] (defScope s__law_refused) := ⟨rfl, rfl, rfl, by decide +kernel, rfl, by decide +kernel, by decide +kernel⟩
abbrev s__law_mixed : Stmt := top 22
theorem sc__law_mixed : FnScope ["_law_pot_here", "_law_some", "_law_left", "_law_found", "_law_turn"] ["_law_pot_here", "_law_some"] (defScope s__law_mixed) := ⟨rfl, rfl, rfl, by decide +kernel, rfl, by decide +kernel, by decide +kernel⟩
abbrev s__law_values : Stmt := top 23
theorem sc__law_values : FnScope ["_law_pot_here", "_law_found", "_law_name", "_law_least", "_law_most", "_law_plain", "_law_number"] ["_law_pot_here"] (defScope s__law_values) := ⟨rfl, rfl, rfl, by decide +kernel, rfl, by decide +kernel, by decide +kernel⟩
abbrev s__law_due : Stmt := top 24
theorem sc__law_due : FnScope ["_law_values_here", "_law_told", "_law_name", "_law_least", "_law_most", "_law_plain"] ["_law_values_here"] (defScope s__law_due) := ⟨rfl, rfl, rfl, by decide +kernel, rfl, by decide +kernel, by decide +kernel⟩
abbrev s_law : Stmt := top 25
theorem sc_law : FnScope ["_law_script", "_law_pot_here", "_law_values_here", "_law_handed", "_law_one", "_law_due_here", "_law_name", "_law_least", "_law_most", "_law_plain", "_law_number", "_law_rows", "_law_row"] ["_law_script"] (defScope s_law) := ⟨rfl, rfl, rfl, by decide +kernel, rfl, by decide +kernel, by decide +kernel⟩
structure Ad where
  f_CoreError___init__ : Addr
  d_CoreError___init__ : FuncData
  f_is_integer : Addr
  d_is_integer : FuncData
  f_is_count : Addr
  d_is_count : FuncData
  f_is_list : Addr
  d_is_list : FuncData
  f_is_value : Addr
  d_is_value : FuncData
  f_is_told : Addr
  d_is_told : FuncData
  f_Settings___init__ : Addr
  d_Settings___init__ : FuncData
  f_Settings_value : Addr
  d_Settings_value : FuncData
  f_Settings_told : Addr
  d_Settings_told : FuncData
  f_Settings___eq__ : Addr
  d_Settings___eq__ : FuncData
  f__law_pot : Addr
  d__law_pot : FuncData
  f__law_draw : Addr
  d__law_draw : FuncData
  f__law_pick : Addr
  d__law_pick : FuncData
  f__law_table : Addr
  d__law_table : FuncData
  f__law_is_let : Addr
  d__law_is_let : FuncData
  f__law_refused : Addr
  d__law_refused : FuncData
  f__law_mixed : Addr
  d__law_mixed : FuncData
  f__law_values : Addr
  d__law_values : FuncData
  f__law_due : Addr
  d__law_due : FuncData
  f_law : Addr
  d_law : FuncData
  c_CoreError : Addr
  c_MissingError : Addr
  c_InvalidValues : Addr
  c_NoSuchName : Addr
  c_Settings : Addr
  t_BOUNDS : Addr
  t_LINE_SIZES : Addr
structure Txt (w : World) (K : PySem.W.Frag) (mg : Str → Option Value) (a : Ad) : Prop where
  g_CoreError : mg "CoreError" = some (.ref a.c_CoreError)
  x_CoreError : OexC K a.c_CoreError
  xi_CoreError : PySem.W.findIn K (.ref a.c_CoreError) "__init__" = some (some (.ref a.f_CoreError___init__))
  xn_CoreError_value : PySem.W.findIn K (.ref a.c_CoreError) "value" = some none
  g_MissingError : mg "MissingError" = some (.ref a.c_MissingError)
  g_InvalidValues : mg "InvalidValues" = some (.ref a.c_InvalidValues)
  x_InvalidValues : OexC K a.c_InvalidValues
  xi_InvalidValues : PySem.W.findIn K (.ref a.c_InvalidValues) "__init__" = some (some (.ref a.f_CoreError___init__))
  xn_InvalidValues_value : PySem.W.findIn K (.ref a.c_InvalidValues) "value" = some none
  xf_InvalidValues : XfC K a.c_InvalidValues
  xe_InvalidValues : PySem.W.exmOne K (.ref a.c_InvalidValues) (.ref a.c_InvalidValues) = some true
  g_NoSuchName : mg "NoSuchName" = some (.ref a.c_NoSuchName)
  g_Settings : mg "Settings" = some (.ref a.c_Settings)
  c_Settings : Cls K a.c_Settings
  n_Settings_own_values : NoAttr K a.c_Settings "own_values"
  i_Settings : InsTy K a.c_Settings
  is_Settings : PySem.W.notFirst K a.c_Settings (.ref a.c_Settings) = true
  io_Settings : PySem.W.kitOne K (.ref a.c_Settings) (.ref a.c_Settings) = some true
  ne_Settings : NeC K a.c_Settings
  nf_Settings_list : PySem.W.notFirst K a.c_Settings (.type "list") = true
  ko_Settings_list : PySem.W.kitOne K (.type "list") (.ref a.c_Settings) = some false
  k_Settings : Mk K a.c_Settings a.f_Settings___init__
  F_CoreError___init__ : Fun K "__init__" "CoreError.__init__" s_CoreError___init__ a.f_CoreError___init__ a.d_CoreError___init__
  b_CoreError___init__ : Binds K a.d_CoreError___init__ ["self", "value"] []
  xt_CoreError___init__ : PySem.W.typeIn K (.ref a.f_CoreError___init__) = some (.type "function")
  m_is_integer : mg "is_integer" = some (.ref a.f_is_integer)
  F_is_integer : Fun K "is_integer" "is_integer" s_is_integer a.f_is_integer a.d_is_integer
  b_is_integer : Binds K a.d_is_integer ["value"] []
  m_is_count : mg "is_count" = some (.ref a.f_is_count)
  F_is_count : Fun K "is_count" "is_count" s_is_count a.f_is_count a.d_is_count
  b_is_count : Binds K a.d_is_count ["value"] []
  m_is_list : mg "is_list" = some (.ref a.f_is_list)
  F_is_list : Fun K "is_list" "is_list" s_is_list a.f_is_list a.d_is_list
  b_is_list : Binds K a.d_is_list ["value"] []
  m_is_value : mg "is_value" = some (.ref a.f_is_value)
  F_is_value : Fun K "is_value" "is_value" s_is_value a.f_is_value a.d_is_value
  b_is_value : Binds K a.d_is_value ["name", "number"] []
  m_is_told : mg "is_told" = some (.ref a.f_is_told)
  F_is_told : Fun K "is_told" "is_told" s_is_told a.f_is_told a.d_is_told
  b_is_told : Binds K a.d_is_told ["value"] []
  F_Settings___init__ : Fun K "__init__" "Settings.__init__" s_Settings___init__ a.f_Settings___init__ a.d_Settings___init__
  b_Settings___init__ : Binds K a.d_Settings___init__ ["self", "values"] []
  F_Settings_value : Fun K "value" "Settings.value" s_Settings_value a.f_Settings_value a.d_Settings_value
  b_Settings_value : Binds K a.d_Settings_value ["self", "name"] []
  M_Settings_value : Meth K a.c_Settings "value" a.f_Settings_value
  F_Settings_told : Fun K "told" "Settings.told" s_Settings_told a.f_Settings_told a.d_Settings_told
  b_Settings_told : Binds K a.d_Settings_told ["self"] []
  M_Settings_told : Meth K a.c_Settings "told" a.f_Settings_told
  F_Settings___eq__ : Fun K "__eq__" "Settings.__eq__" s_Settings___eq__ a.f_Settings___eq__ a.d_Settings___eq__
  b_Settings___eq__ : Binds K a.d_Settings___eq__ ["self", "other"] []
  M_Settings___eq__ : Meth K a.c_Settings "__eq__" a.f_Settings___eq__
  m__law_pot : mg "_law_pot" = some (.ref a.f__law_pot)
  F__law_pot : Fun K "_law_pot" "_law_pot" s__law_pot a.f__law_pot a.d__law_pot
  b__law_pot : Binds K a.d__law_pot ["_law_script", "_law_k"] []
  m__law_draw : mg "_law_draw" = some (.ref a.f__law_draw)
  F__law_draw : Fun K "_law_draw" "_law_draw" s__law_draw a.f__law_draw a.d__law_draw
  b__law_draw : Binds K a.d__law_draw ["_law_pot_here", "_law_size"] []
  m__law_pick : mg "_law_pick" = some (.ref a.f__law_pick)
  F__law_pick : Fun K "_law_pick" "_law_pick" s__law_pick a.f__law_pick a.d__law_pick
  b__law_pick : Binds K a.d__law_pick ["_law_pot_here", "_law_some"] []
  m__law_table : mg "_law_table" = some (.ref a.f__law_table)
  F__law_table : Fun K "_law_table" "_law_table" s__law_table a.f__law_table a.d__law_table
  b__law_table : Binds K a.d__law_table [] []
  m__law_is_let : mg "_law_is_let" = some (.ref a.f__law_is_let)
  F__law_is_let : Fun K "_law_is_let" "_law_is_let" s__law_is_let a.f__law_is_let a.d__law_is_let
  b__law_is_let : Binds K a.d__law_is_let ["_law_name", "_law_least", "_law_most", "_law_number"] []
  m__law_refused : mg "_law_refused" = some (.ref a.f__law_refused)
  F__law_refused : Fun K "_law_refused" "_law_refused" s__law_refused a.f__law_refused a.d__law_refused
  b__law_refused : Binds K a.d__law_refused ["_law_values_here"] []
  m__law_mixed : mg "_law_mixed" = some (.ref a.f__law_mixed)
  F__law_mixed : Fun K "_law_mixed" "_law_mixed" s__law_mixed a.f__law_mixed a.d__law_mixed
  b__law_mixed : Binds K a.d__law_mixed ["_law_pot_here", "_law_some"] []
  m__law_values : mg "_law_values" = some (.ref a.f__law_values)
  F__law_values : Fun K "_law_values" "_law_values" s__law_values a.f__law_values a.d__law_values
  b__law_values : Binds K a.d__law_values ["_law_pot_here"] []
  m__law_due : mg "_law_due" = some (.ref a.f__law_due)
  F__law_due : Fun K "_law_due" "_law_due" s__law_due a.f__law_due a.d__law_due
  b__law_due : Binds K a.d__law_due ["_law_values_here"] []
  m_law : mg "law" = some (.ref a.f_law)
  F_law : Fun K "law" "law" s_law a.f_law a.d_law
  b_law : Binds K a.d_law ["_law_script"] []
  z_abs : mg "abs" = none
  z_all : mg "all" = none
  z_bool : mg "bool" = none
  z_dict : mg "dict" = none
  z_divmod : mg "divmod" = none
  z_int : mg "int" = none
  z_isinstance : mg "isinstance" = none
  z_len : mg "len" = none
  z_list : mg "list" = none
  z_max : mg "max" = none
  z_range : mg "range" = none
  z_set : mg "set" = none
  z_sorted : mg "sorted" = none
  z_str : mg "str" = none
  z_tuple : mg "tuple" = none
  v_BOUNDS : mg "BOUNDS" = some (.ref a.t_BOUNDS)
  kq_BOUNDS : KTabQ K w (fun v : Int × Int × Int => [V.int v.1, V.int v.2.1, V.int v.2.2]) a.t_BOUNDS D_BOUNDS
  v_LINE_SIZES : mg "LINE_SIZES" = some (.ref a.t_LINE_SIZES)
  tq_LINE_SIZES : ∀ H, SqT K H a.t_LINE_SIZES [.int 1, .int 2, .int 4, .int 8, .int 16]
local macro_rules | `(tactic| walk_at "cls") => `(tactic| first | assumption | exact Txt.c_Settings (by assumption))
local macro_rules | `(tactic| walk_at "nat") => `(tactic| first | assumption | exact Txt.n_Settings_own_values (by assumption))
def sp_law (K : PySem.W.Frag) : Sp := fun vs H Q _ => ∃ (a : Addr) (ns : List Int), vs = [.ref a] ∧ SqL K H a (ns.map V.int) ∧ ns.length ≤ 63 ∧ ∀ H', Q (.bl true) H'

structure SettingsS where
  own_values : (List (Str × Int))
  deriving DecidableEq
def A_Settings (K : PySem.W.Frag) (a : Ad) (r : Addr) (s : SettingsS) : HA := ex fun dx : Addr => ex fun a_own_values : Addr => all [pt r (.ins a.c_Settings dx [("own_values", .ref a_own_values)]), dk fS (kI (K := K)) a_own_values s.own_values]
@[reducible] def B_Settings (K : PySem.W.Frag) (a : Ad) (r : Addr) (s : SettingsS) (dx : Addr) (a_own_values : Addr) : HA := all [pt r (.ins a.c_Settings dx [("own_values", .ref a_own_values)]), dk fS (kI (K := K)) a_own_values s.own_values]
theorem Ent.o_Settings {K : PySem.W.Frag} {a : Ad} {r : Addr} {s : SettingsS} {L : List HA} {φ : Hp → Prop} (e : ∀ (dx : Addr) (a_own_values : Addr), Ent (pt r (.ins a.c_Settings dx [("own_values", .ref a_own_values)]) :: dk fS (kI (K := K)) a_own_values s.own_values :: L) φ) : Ent (A_Settings K a r s :: L) φ :=
  Ent.ex fun dx => Ent.ex fun a_own_values => Ent.all (e dx a_own_values)
theorem Sub.f_Settings {K : PySem.W.Frag} {a : Ad} {r : Addr} {f_own_values : (List (Str × Int))} {L R : List HA} {dx : Addr} {a_own_values : Addr} (e : Sub L (pt r (.ins a.c_Settings dx [("own_values", .ref a_own_values)]) :: dk fS (kI (K := K)) a_own_values f_own_values :: R)) : Sub L (A_Settings K a r (SettingsS.mk f_own_values) :: R) :=
  Sub.ex dx (Sub.ex a_own_values (Sub.all e))
theorem Sub.fB_Settings {K : PySem.W.Frag} {a : Ad} {r : Addr} {f_own_values : (List (Str × Int))} {L R : List HA} {dx : Addr} {a_own_values : Addr} (e : Sub L (pt r (.ins a.c_Settings dx [("own_values", .ref a_own_values)]) :: dk fS (kI (K := K)) a_own_values f_own_values :: R)) : Sub L (B_Settings K a r (SettingsS.mk f_own_values) dx a_own_values :: R) := Sub.all e
theorem oF_Settings {K : PySem.W.Frag} {a : Ad} {r : Addr} {s : SettingsS} {L R : List HA} {f : Str} {Q : VK} (t : Take (A_Settings K a r s) L R) (e : ∀ (dx : Addr) (a_own_values : Addr), Ent (pt r (.ins a.c_Settings dx [("own_values", .ref a_own_values)]) :: dk fS (kI (K := K)) a_own_values s.own_values :: R) fun H => kFld K f Q (.ref r) H) : Ent L fun H => kFld K f Q (.ref r) H := Ent.sub t (Ent.o_Settings e)
theorem oS_Settings {K : PySem.W.Frag} {a : Ad} {r : Addr} {s : SettingsS} {L R : List HA} {f : Str} {nx : L2.St → Hp → Prop} {σ : L2.St} {y : V} (t : Take (A_Settings K a r s) L R) (e : ∀ (dx : Addr) (a_own_values : Addr), Ent (pt r (.ins a.c_Settings dx [("own_values", .ref a_own_values)]) :: dk fS (kI (K := K)) a_own_values s.own_values :: R) fun H => kSF K f nx σ y (.ref r) H) : Ent L fun H => kSF K f nx σ y (.ref r) H := Ent.sub t (Ent.o_Settings e)
theorem ty_Settings {K : PySem.W.Frag} {a : Ad} {r : Addr} {s : SettingsS} {L R : List HA} (t : Take (A_Settings K a r s) L R) (i : InsTy K a.c_Settings) (c : Cls K a.c_Settings) : ∀ H, Holds L H → TyX K H (.ref r) (.ref a.c_Settings) := fun H z => by
  obtain ⟨S, S1, S2, h1, _⟩ := t.to z
  obtain ⟨dx, a_own_values, h1⟩ := h1
  obtain ⟨S3, S4, h3, _⟩ := h1
  exact i.ty c h3.1
theorem ins_Settings {K : PySem.W.Frag} {a : Ad} {r : Addr} {s : SettingsS} {L R : List HA} (t : Take (A_Settings K a r s) L R) : ∀ H, Holds L H → ∃ dx fs, H r = some (.ins a.c_Settings dx fs) := fun H z => by
  obtain ⟨S, S1, S2, h1, _⟩ := t.to z
  obtain ⟨dx, a_own_values, h1⟩ := h1
  obtain ⟨S3, S4, h3, _⟩ := h1
  exact ⟨_, _, h3.1⟩
theorem hi_Settings {K : PySem.W.Frag} {a : Ad} {r : Addr} {s : SettingsS} {L R : List HA} {m : Str} (t : Take (A_Settings K a r s) L R) (h : ∀ (dx : Addr) (a_own_values : Addr), ([("own_values", .ref a_own_values)] : List (Str × V)).lookup m = none) : HasI a.c_Settings L r m := fun H z => by
  obtain ⟨S, S1, S2, h1, _⟩ := t.to z
  obtain ⟨dx, a_own_values, h1⟩ := h1
  obtain ⟨S3, S4, h3, _⟩ := h1
  exact ⟨dx, _, h3.1, h dx a_own_values⟩



def m_Settings_value (self : SettingsS) (name : Str) (k : Int → Prop) : Prop :=
  (if (dlk D_BOUNDS name).isSome = true then
  obx (dg self.own_values name) fun w1 =>
  k w1
  else
  False)

def m_is_integer (value : Int) (k : Bool → Prop) : Prop :=
  k (!false)

def m_is_count (value : Int) (k : Bool → Prop) : Prop :=
  m_is_integer value fun r1 =>
  (if r1 = true then
  k (decide ((0 : Int) ≤ value))
  else
  k false)

def m_Settings___eq__ (self : SettingsS) (other : SettingsS) (k : Bool → Prop) : Prop :=
  k (dqB self.own_values other.own_values)

def m_is_value (name : Str) (number : Int) (k : Bool → Prop) : Prop :=
  m_is_count number fun r1 =>
  (if r1 = true then
  obx (dlk D_BOUNDS name) fun w2 =>
  (if w2.1 ≤ number then
  obx (dlk D_BOUNDS name) fun w3 =>
  (if number ≤ w3.2.1 then
  (if name = ("line" : Str) then
  k (decide (number ∈ ([1, 2, 4, 8, 16] : List Int)))
  else
  k true)
  else
  k false)
  else
  k false)
  else
  k false)

def m_is_told (value : (Str × Int)) (k : Bool → Prop) : Prop :=
  (if (2 : Int) = (2 : Int) then
  (if (dlk D_BOUNDS value.1).isSome = true then
  m_is_value value.1 value.2 fun r1 =>
  k r1
  else
  k false)
  else
  k false)

def m_Settings___init__ (values : (List (Str × Int))) (k : SettingsS → Prop) (xr : Prop) : Prop :=
  grd (values.length ≤ 100000) <| lcL values [] (fun x1 nx2 =>
  m_is_told x1 fun r4 =>
  nx2 (some r4)) fun ys3 =>
  (if (ys3.all id) = true then
  grd (values.length ≤ 100000) <| lcL values [] (fun x5 nx6 =>
  nx6 (some x5.1)) fun ys7 =>
  pms ys7 fun s8 =>
  (if (s8.length : Int) = (ys7.length : Int) then
  grd ((D_BOUNDS.map (·.1)).length ≤ 100000) <| lcL (D_BOUNDS.map (·.1)) [] (fun x9 nx10 =>
  obx (dlk D_BOUNDS x9) fun w12 =>
  nx10 (some (x9, w12.2.2))) fun ys11 =>
  grd (values.length ≤ 100000) <| lcL values [] (fun x13 nx14 =>
  nx14 (some x13)) fun ys15 =>
  grd (ys11.length + ys15.length ≤ 100000) <|
  k (SettingsS.mk (dop (ys11 ++ ys15)))
  else
  xr)
  else
  xr)

def m_Settings___init____V_t (values : (List (Str × Int))) (k : SettingsS → Prop) (xr : Prop) : Prop :=
  grd (values.length ≤ 100000) <| lcL values [] (fun x1 nx2 =>
  m_is_told x1 fun r4 =>
  nx2 (some r4)) fun ys3 =>
  (if (ys3.all id) = true then
  grd (values.length ≤ 100000) <| lcL values [] (fun x5 nx6 =>
  nx6 (some x5.1)) fun ys7 =>
  pms ys7 fun s8 =>
  (if (s8.length : Int) = (ys7.length : Int) then
  grd ((D_BOUNDS.map (·.1)).length ≤ 100000) <| lcL (D_BOUNDS.map (·.1)) [] (fun x9 nx10 =>
  obx (dlk D_BOUNDS x9) fun w12 =>
  nx10 (some (x9, w12.2.2))) fun ys11 =>
  grd (values.length ≤ 100000) <| lcL values [] (fun x13 nx14 =>
  nx14 (some x13)) fun ys15 =>
  grd (ys11.length + ys15.length ≤ 100000) <|
  k (SettingsS.mk (dop (ys11 ++ ys15)))
  else
  xr)
  else
  xr)

def m_Settings_told (self : SettingsS) (k : (List (Str × Int)) → Prop) : Prop :=
  grd (self.own_values.length < 64 ∧ ∀ x ∈ self.own_values, PyData.strOk x.1 = true) <|
  k (srtD dSI self.own_values)

def m__law_table  (k : (List (Str × Int × Int × Int)) → Prop) : Prop :=
  grd (([(("fetch" : Str), (1 : Int), (4 : Int), (2 : Int)), (("issue" : Str), (1 : Int), (4 : Int), (2 : Int)), (("retire" : Str), (1 : Int), (4 : Int), (2 : Int)), (("reorder" : Str), (2 : Int), (32 : Int), (8 : Int))] : (List (Str × Int × Int × Int))).length + ([(("stations" : Str), (1 : Int), (16 : Int), (4 : Int)), (("loads" : Str), (1 : Int), (8 : Int), (4 : Int)), (("stores" : Str), (1 : Int), (8 : Int), (4 : Int)), (("physical" : Str), (9 : Int), (48 : Int), (16 : Int))] : (List (Str × Int × Int × Int))).length ≤ 100000) <|
  grd ((([(("fetch" : Str), (1 : Int), (4 : Int), (2 : Int)), (("issue" : Str), (1 : Int), (4 : Int), (2 : Int)), (("retire" : Str), (1 : Int), (4 : Int), (2 : Int)), (("reorder" : Str), (2 : Int), (32 : Int), (8 : Int))] : (List (Str × Int × Int × Int))) ++ ([(("stations" : Str), (1 : Int), (16 : Int), (4 : Int)), (("loads" : Str), (1 : Int), (8 : Int), (4 : Int)), (("stores" : Str), (1 : Int), (8 : Int), (4 : Int)), (("physical" : Str), (9 : Int), (48 : Int), (16 : Int))] : (List (Str × Int × Int × Int)))).length + ([(("queue" : Str), (1 : Int), (8 : Int), (4 : Int)), (("line" : Str), (1 : Int), (16 : Int), (4 : Int)), (("sets1" : Str), (1 : Int), (8 : Int), (2 : Int)), (("ways1" : Str), (1 : Int), (4 : Int), (1 : Int))] : (List (Str × Int × Int × Int))).length ≤ 100000) <|
  grd (((([(("fetch" : Str), (1 : Int), (4 : Int), (2 : Int)), (("issue" : Str), (1 : Int), (4 : Int), (2 : Int)), (("retire" : Str), (1 : Int), (4 : Int), (2 : Int)), (("reorder" : Str), (2 : Int), (32 : Int), (8 : Int))] : (List (Str × Int × Int × Int))) ++ ([(("stations" : Str), (1 : Int), (16 : Int), (4 : Int)), (("loads" : Str), (1 : Int), (8 : Int), (4 : Int)), (("stores" : Str), (1 : Int), (8 : Int), (4 : Int)), (("physical" : Str), (9 : Int), (48 : Int), (16 : Int))] : (List (Str × Int × Int × Int)))) ++ ([(("queue" : Str), (1 : Int), (8 : Int), (4 : Int)), (("line" : Str), (1 : Int), (16 : Int), (4 : Int)), (("sets1" : Str), (1 : Int), (8 : Int), (2 : Int)), (("ways1" : Str), (1 : Int), (4 : Int), (1 : Int))] : (List (Str × Int × Int × Int)))).length + ([(("sets2" : Str), (1 : Int), (16 : Int), (4 : Int)), (("ways2" : Str), (1 : Int), (4 : Int), (2 : Int)), (("wait2" : Str), (0 : Int), (9 : Int), (2 : Int)), (("waitm" : Str), (0 : Int), (20 : Int), (6 : Int))] : (List (Str × Int × Int × Int))).length ≤ 100000) <|
  grd ((((([(("fetch" : Str), (1 : Int), (4 : Int), (2 : Int)), (("issue" : Str), (1 : Int), (4 : Int), (2 : Int)), (("retire" : Str), (1 : Int), (4 : Int), (2 : Int)), (("reorder" : Str), (2 : Int), (32 : Int), (8 : Int))] : (List (Str × Int × Int × Int))) ++ ([(("stations" : Str), (1 : Int), (16 : Int), (4 : Int)), (("loads" : Str), (1 : Int), (8 : Int), (4 : Int)), (("stores" : Str), (1 : Int), (8 : Int), (4 : Int)), (("physical" : Str), (9 : Int), (48 : Int), (16 : Int))] : (List (Str × Int × Int × Int)))) ++ ([(("queue" : Str), (1 : Int), (8 : Int), (4 : Int)), (("line" : Str), (1 : Int), (16 : Int), (4 : Int)), (("sets1" : Str), (1 : Int), (8 : Int), (2 : Int)), (("ways1" : Str), (1 : Int), (4 : Int), (1 : Int))] : (List (Str × Int × Int × Int)))) ++ ([(("sets2" : Str), (1 : Int), (16 : Int), (4 : Int)), (("ways2" : Str), (1 : Int), (4 : Int), (2 : Int)), (("wait2" : Str), (0 : Int), (9 : Int), (2 : Int)), (("waitm" : Str), (0 : Int), (20 : Int), (6 : Int))] : (List (Str × Int × Int × Int)))).length + ([(("times" : Str), (1 : Int), (8 : Int), (3 : Int)), (("over" : Str), (1 : Int), (16 : Int), (6 : Int)), (("buffer" : Str), (1 : Int), (16 : Int), (4 : Int)), (("targets" : Str), (1 : Int), (16 : Int), (4 : Int))] : (List (Str × Int × Int × Int))).length ≤ 100000) <|
  grd (((((([(("fetch" : Str), (1 : Int), (4 : Int), (2 : Int)), (("issue" : Str), (1 : Int), (4 : Int), (2 : Int)), (("retire" : Str), (1 : Int), (4 : Int), (2 : Int)), (("reorder" : Str), (2 : Int), (32 : Int), (8 : Int))] : (List (Str × Int × Int × Int))) ++ ([(("stations" : Str), (1 : Int), (16 : Int), (4 : Int)), (("loads" : Str), (1 : Int), (8 : Int), (4 : Int)), (("stores" : Str), (1 : Int), (8 : Int), (4 : Int)), (("physical" : Str), (9 : Int), (48 : Int), (16 : Int))] : (List (Str × Int × Int × Int)))) ++ ([(("queue" : Str), (1 : Int), (8 : Int), (4 : Int)), (("line" : Str), (1 : Int), (16 : Int), (4 : Int)), (("sets1" : Str), (1 : Int), (8 : Int), (2 : Int)), (("ways1" : Str), (1 : Int), (4 : Int), (1 : Int))] : (List (Str × Int × Int × Int)))) ++ ([(("sets2" : Str), (1 : Int), (16 : Int), (4 : Int)), (("ways2" : Str), (1 : Int), (4 : Int), (2 : Int)), (("wait2" : Str), (0 : Int), (9 : Int), (2 : Int)), (("waitm" : Str), (0 : Int), (20 : Int), (6 : Int))] : (List (Str × Int × Int × Int)))) ++ ([(("times" : Str), (1 : Int), (8 : Int), (3 : Int)), (("over" : Str), (1 : Int), (16 : Int), (6 : Int)), (("buffer" : Str), (1 : Int), (16 : Int), (4 : Int)), (("targets" : Str), (1 : Int), (16 : Int), (4 : Int))] : (List (Str × Int × Int × Int)))).length + ([(("counters" : Str), (1 : Int), (32 : Int), (8 : Int)), (("returns" : Str), (0 : Int), (8 : Int), (2 : Int)), (("whim" : Str), (0 : Int), (4 : Int), (0 : Int)), (("twist" : Str), (0 : Int), (1 : Int), (0 : Int))] : (List (Str × Int × Int × Int))).length ≤ 100000) <|
  k (((((([(("fetch" : Str), (1 : Int), (4 : Int), (2 : Int)), (("issue" : Str), (1 : Int), (4 : Int), (2 : Int)), (("retire" : Str), (1 : Int), (4 : Int), (2 : Int)), (("reorder" : Str), (2 : Int), (32 : Int), (8 : Int))] : (List (Str × Int × Int × Int))) ++ ([(("stations" : Str), (1 : Int), (16 : Int), (4 : Int)), (("loads" : Str), (1 : Int), (8 : Int), (4 : Int)), (("stores" : Str), (1 : Int), (8 : Int), (4 : Int)), (("physical" : Str), (9 : Int), (48 : Int), (16 : Int))] : (List (Str × Int × Int × Int)))) ++ ([(("queue" : Str), (1 : Int), (8 : Int), (4 : Int)), (("line" : Str), (1 : Int), (16 : Int), (4 : Int)), (("sets1" : Str), (1 : Int), (8 : Int), (2 : Int)), (("ways1" : Str), (1 : Int), (4 : Int), (1 : Int))] : (List (Str × Int × Int × Int)))) ++ ([(("sets2" : Str), (1 : Int), (16 : Int), (4 : Int)), (("ways2" : Str), (1 : Int), (4 : Int), (2 : Int)), (("wait2" : Str), (0 : Int), (9 : Int), (2 : Int)), (("waitm" : Str), (0 : Int), (20 : Int), (6 : Int))] : (List (Str × Int × Int × Int)))) ++ ([(("times" : Str), (1 : Int), (8 : Int), (3 : Int)), (("over" : Str), (1 : Int), (16 : Int), (6 : Int)), (("buffer" : Str), (1 : Int), (16 : Int), (4 : Int)), (("targets" : Str), (1 : Int), (16 : Int), (4 : Int))] : (List (Str × Int × Int × Int)))) ++ ([(("counters" : Str), (1 : Int), (32 : Int), (8 : Int)), (("returns" : Str), (0 : Int), (8 : Int), (2 : Int)), (("whim" : Str), (0 : Int), (4 : Int), (0 : Int)), (("twist" : Str), (0 : Int), (1 : Int), (0 : Int))] : (List (Str × Int × Int × Int))))

def m__law_is_let (name : Str) (least : Int) (most : Int) (number : Int) (k : Bool → Prop) : Prop :=
  (if name = ("line" : Str) then
  k (decide (number ∈ ([(1 : Int), (2 : Int), (4 : Int), (8 : Int), (16 : Int)] : (List Int))))
  else
  (if least ≤ number then
  k (decide (number ≤ most))
  else
  k false))

def m__law_refused (values_here : (List (Str × Int))) (k : Bool → Prop) : Prop :=
  jn (fun (m1 : Bool) =>
  k m1) fun jp2 =>
  m_Settings___init__ values_here (fun r3 =>
  jp2 false) ((jp2 (eqb values_here values_here)))

def m__law_mixed (some_ : (List (Str × Int))) (k : (List (Str × Int)) → Prop) : Prop :=
  grd (-100000000 ≤ (some_.length : Int) ∧ (some_.length : Int) < 100000000) <| forL (rgI 0 (some_.length : Int).toNat) (some_, ([] : (List (Str × Int)))) (fun x1 (m2 : (List (Str × Int)) × (List (Str × Int))) nx3 bk4 =>
  drw (m2.1.length : Int) fun d6 =>
  obx (popI m2.1 d6) fun w7 =>
  grd (m2.2.length ≤ 100000) <|
  nx3 ((m2.1.eraseIdx w7.1), (m2.2 ++ [w7.2]))) fun (m5 : (List (Str × Int)) × (List (Str × Int))) =>
  k m5.2

def m__law_values  (k : (List (Str × Int)) → Prop) : Prop :=
  m__law_table  fun r1 =>
  forL r1 ([] : (List (Str × Int))) (fun x2 (m3 : (List (Str × Int))) nx4 bk5 =>
  drw (2 : Int) fun d7 =>
  (if d7 = (0 : Int) then
  drw ((x2.2.2.1 - x2.2.1) + (1 : Int)) fun d8 =>
  pck ([x2.2.1, x2.2.2.1, x2.2.2.2, (x2.2.1 + d8)] : (List Int)) fun p9 =>
  jn (fun (r10 : Int) =>
  grd (m3.length ≤ 100000) <|
  nx4 (m3 ++ [(x2.1, r10)])) fun jp11 =>
  m__law_is_let x2.1 x2.2.1 x2.2.2.1 p9 fun r12 =>
  (if r12 = true then
  jp11 p9
  else
  jp11 x2.2.2.2)
  else
  nx4 m3)) fun (m6 : (List (Str × Int))) =>
  k m6

def m__law_due (values_here : (List (Str × Int))) (k : (List (Str × Int)) → Prop) : Prop :=
  m__law_table  fun r1 =>
  grd (r1.length ≤ 100000) <| lcL r1 [] (fun x2 nx3 =>
  nx3 (some (x2.1, ((dg (dop values_here) x2.1).getD x2.2.2.2)))) fun ys4 =>
  grd (ys4.length ≤ 100000) <|
  k (srtD dSI ys4)

def m_law (script : (List Int)) (k : Bool → Prop) : Prop :=
  m__law_values  fun r1 =>
  m__law_mixed r1 fun r2 =>
  m_Settings___init__ r2 (fun r3 =>
  grd (r2.length ≤ 100000) <|
  m__law_due r1 fun r4 =>
  jn (fun (c5 : Bool) =>
  (if c5 = true then
  k false
  else
  m_Settings_told r3 fun r7 =>
  grd (r7.length ≤ 100000) <|
  jn (fun (c8 : Bool) =>
  (if c8 = true then
  k false
  else
  m__law_table  fun r10 =>
  pck r10 fun p11 =>
  drw ((p11.2.2.1 - p11.2.1) + (1 : Int)) fun d12 =>
  forL ([(p11.2.1 - (1 : Int)), p11.2.1, p11.2.2.1, (p11.2.2.1 + (1 : Int)), p11.2.2.2, (p11.2.1 + d12)] : (List Int)) () (fun x13 (m14 : Unit) nx15 bk16 =>
  grd (r1.length ≤ 100000) <| lcL r1 [] (fun x18 nx19 =>
  (if x18.1 = p11.1 then
  nx19 none
  else
  nx19 (some x18))) fun ys20 =>
  grd (ys20.length + ([(p11.1, x13)] : (List (Str × Int))).length ≤ 100000) <|
  jn (fun (c21 : Bool) =>
  (if c21 = true then
  m__law_refused (ys20 ++ ([(p11.1, x13)] : (List (Str × Int)))) fun r23 =>
  (if r23 = true then
  nx15 ()
  else
  k false)
  else
  m_Settings___init__ (ys20 ++ ([(p11.1, x13)] : (List (Str × Int)))) (fun r24 =>
  m_Settings_told r24 fun r25 =>
  m__law_due (ys20 ++ ([(p11.1, x13)] : (List (Str × Int)))) fun r26 =>
  (if r25 = r26 then
  m_Settings___init__ (ys20 ++ ([(p11.1, x13)] : (List (Str × Int)))) (fun r27 =>
  m_Settings___eq__ r27 r3 fun r28 =>
  m__law_due (ys20 ++ ([(p11.1, x13)] : (List (Str × Int)))) fun r29 =>
  (if r28 = (eqb r29 r4) then
  nx15 ()
  else
  k false)) False
  else
  k false)) False)) fun jp22 =>
  (if x13 < (0 : Int) then
  jp22 true
  else
  m__law_is_let p11.1 p11.2.1 p11.2.2.1 x13 fun r30 =>
  jp22 (!r30))) fun (m17 : Unit) =>
  m_Settings___init__ ([] : (List (Str × Int))) (fun r31 =>
  m_Settings_told r31 fun r32 =>
  m__law_due ([] : (List (Str × Int))) fun r33 =>
  (if r32 = r33 then
  grd (r1.length + (cutA r1 none (some (1 : Int))).length ≤ 100000) <|
  m__law_refused (r1 ++ (cutA r1 none (some (1 : Int)))) fun r34 =>
  k (eqb r34 (!(eqb r1 ([] : (List (Str × Int))))))
  else
  k false)) False)) fun jp9 =>
  m_Settings_told r3 fun r35 =>
  (if r35 = r4 then
  m_Settings___init____V_t r4 (fun r36 =>
  m_Settings___eq__ r3 r36 fun r37 =>
  (if r37 = true then
  m_Settings___init__ r1.reverse (fun r38 =>
  m_Settings___eq__ r3 r38 fun r39 =>
  jp9 (!r39)) False
  else
  jp9 true)) False
  else
  jp9 true))) fun jp6 =>
  m_Settings_told r3 fun r40 =>
  (if r40 = r4 then
  grd (r4.length ≤ 100000) <| lcL r4 [] (fun x41 nx42 =>
  m_Settings_value r3 x41.1 fun r44 =>
  nx42 (some (x41.1, r44))) fun ys43 =>
  jp6 (!(eqb ys43 r4))
  else
  jp6 true)) False

/-! ### the settings' dict -/
def szs : List Int := [1, 2, 4, 8, 16]
def isTold (p : Str × Int) : Bool := match dlk D_BOUNDS p.1 with
  | none => false
  | some t => decide (0 ≤ p.2) && decide (t.1 ≤ p.2) && decide (p.2 ≤ t.2.1) && (decide (p.1 ≠ "line") || decide (p.2 ∈ szs))
theorem value_eq {n : Str} {x : Int} {t : Int × Int × Int} {k : Bool → Prop} (h : dlk D_BOUNDS n = some t) : m_is_value n x k = k (isTold (n, x)) := by
  unfold m_is_value m_is_count m_is_integer isTold
  simp only [h, obx_some, Bool.not_false, if_true]
  by_cases h0 : (0 : Int) ≤ x
  · rw [if_pos (decide_eq_true h0)]
    by_cases h1 : t.1 ≤ x
    · rw [if_pos h1]
      by_cases h2 : x ≤ t.2.1
      · rw [if_pos h2]
        by_cases h3 : n = "line"
        · rw [if_pos h3]; simp [h0, h1, h2, h3, szs]
        · rw [if_neg h3]; simp [h0, h1, h2, h3]
      · rw [if_neg h2]; simp [h2]
    · rw [if_neg h1]; simp [h1]
  · rw [if_neg (by simp [h0])]; simp [h0]
theorem told_eq1 {p : Str × Int} {k : Bool → Prop} : m_is_told p k = k (isTold p) := by
  unfold m_is_told
  rw [if_pos rfl]
  cases h : dlk D_BOUNDS p.1 with
  | none => rw [if_neg (by simp)]; unfold isTold; rw [h]
  | some t => rw [if_pos (by rfl), value_eq h]
/-! #### lists without Mathlib -/
theorem nd_lenS {α : Type} [DecidableEq α] : ∀ {xs ys : List α}, xs.Nodup → (∀ x ∈ xs, x ∈ ys) → xs.length ≤ ys.length
  | [], _, _, _ => Nat.zero_le _
  | x :: xs, ys, h, hs => by
    rw [List.nodup_cons] at h
    have hx := hs x List.mem_cons_self
    have := nd_lenS (xs := xs) (ys := ys.erase x) h.2 fun y hy => (List.mem_erase_of_ne (fun z => h.1 (by rw [← z]; exact hy))).mpr (hs y (List.mem_cons_of_mem _ hy))
    rw [List.length_erase_of_mem hx] at this
    have hp := List.length_pos_of_mem hx
    rw [List.length_cons]
    omega
theorem dup_of {α : Type} [DecidableEq α] : ∀ {xs : List α}, ¬ xs.Nodup → ∃ x, x ∈ xs ∧ ∀ y ∈ xs, y ∈ xs.erase x
  | [], h => absurd List.nodup_nil h
  | x :: xs, h => by
    rw [List.nodup_cons] at h
    by_cases hx : x ∈ xs
    · refine ⟨x, List.mem_cons_self, fun y hy => ?_⟩
      rw [List.erase_cons_head]
      rcases List.mem_cons.mp hy with e | e
      · rw [e]; exact hx
      · exact e
    · obtain ⟨z, hz, hd⟩ := dup_of (xs := xs) fun hn => h ⟨hx, hn⟩
      refine ⟨z, List.mem_cons_of_mem _ hz, fun y hy => ?_⟩
      have ne : ¬ (x == z) = true := by
        intro e
        rw [beq_iff_eq] at e
        exact hx (e ▸ hz)
      rw [List.erase_cons_tail ne]
      rcases List.mem_cons.mp hy with e | e
      · rw [e]; exact List.mem_cons_self
      · exact List.mem_cons_of_mem _ (hd y e)
theorem nd_iff {ys ns : List Str} (h : ys.Nodup) (m : ∀ x, x ∈ ys ↔ x ∈ ns) : ((ys.length : Int) = (ns.length : Int)) ↔ ns.Nodup := by
  constructor
  · intro e
    refine Classical.byContradiction fun hn => ?_
    obtain ⟨x, hx, hd⟩ := dup_of hn
    have := nd_lenS (ys := ns.erase x) h fun y hy => hd y ((m y).mp hy)
    rw [List.length_erase_of_mem hx] at this
    have := List.length_pos_of_mem hx
    omega
  · intro hn
    have a := nd_lenS h fun x hx => (m x).mp hx
    have b := nd_lenS hn fun x hx => (m x).mpr hx
    omega
/-! #### dicts as lists of pairs, each key once -/
theorem dg_of {κ α : Type} [DecidableEq κ] {d : List (κ × α)} (h : (d.map (·.1)).Nodup) {p : κ × α} (hp : p ∈ d) : dg d p.1 = some p.2 := by
  induction d with
  | nil => cases hp
  | cons q d ih =>
    rw [List.map_cons, List.nodup_cons] at h
    rw [dg_cons]
    rcases List.mem_cons.mp hp with e | e
    · rw [e, if_pos rfl]
    · rw [if_neg (fun z => h.1 (by rw [z]; exact List.mem_map_of_mem e)), ih h.2 e]
theorem dext {κ α : Type} [DecidableEq κ] : ∀ {d e : List (κ × α)}, d.map (·.1) = e.map (·.1) → (d.map (·.1)).Nodup → (∀ x ∈ d.map (·.1), dg d x = dg e x) → d = e
  | [], [], _, _, _ => rfl
  | [], _ :: _, h, _, _ => by simp at h
  | _ :: _, [], h, _, _ => by simp at h
  | p :: d, q :: e, h, n, g => by
    simp only [List.map_cons, List.cons.injEq] at h
    rw [List.map_cons, List.nodup_cons] at n
    have g0 := g p.1 (by simp)
    rw [dg_cons, dg_cons, if_pos rfl, if_pos h.1.symm] at g0
    have := dext h.2 n.2 fun x hx => by
      have g1 := g x (by rw [List.map_cons]; exact List.mem_cons_of_mem _ hx)
      have ne : ¬ p.1 = x := fun z => n.1 (by rw [z]; exact hx)
      rwa [dg_cons, dg_cons, if_neg ne, if_neg (h.1 ▸ ne)] at g1
    rw [this, Prod.ext h.1 (Option.some.inj g0)]
theorem dg_perm {κ α : Type} [DecidableEq κ] {d e : List (κ × α)} (p : d.Perm e) (h : (d.map (·.1)).Nodup) (x : κ) : dg d x = dg e x := by
  have he : (e.map (·.1)).Nodup := (p.map _).nodup h
  cases c : dg d x with
  | some v =>
    have := dg_of he (p.mem_iff.mp (dg_some_mem c))
    exact this.symm
  | none =>
    cases c' : dg e x with
    | none => rfl
    | some v =>
      have := dg_of h (p.mem_iff.mpr (dg_some_mem c'))
      rw [c] at this; cases this
/-- dict(pairs) asked -/
theorem dg_fold {α : Type} (vs d : List (Str × α)) (x : Str) : dg (vs.foldl (fun d p => dp d p.1 p.2) d) x = (dg (dop vs) x).or (dg d x) := by
  induction vs generalizing d with
  | nil => rfl
  | cons p vs ih =>
    unfold dop
    rw [List.foldl_cons, List.foldl_cons, ih, ih (dp [] p.1 p.2), dg_put, dg_put]
    by_cases c : x = p.1
    · simp [c]
    · simp [c, dg_nil]
theorem keys_fold {α : Type} : ∀ (vs d : List (Str × α)), (∀ p ∈ vs, p.1 ∈ d.map (·.1)) → (vs.foldl (fun d p => dp d p.1 p.2) d).map (·.1) = d.map (·.1)
  | [], _, _ => rfl
  | p :: vs, d, h => by
    have hp := h p List.mem_cons_self
    have e : (dp d p.1 p.2).map (·.1) = d.map (·.1) := by rw [dp_keys, if_pos hp]
    rw [List.foldl_cons, keys_fold vs _ fun q hq => by rw [e]; exact h q (List.mem_cons_of_mem _ hq), e]
theorem dop_nd {α : Type} {vs : List (Str × α)} (h : (vs.map (·.1)).Nodup) : dop vs = vs := by
  have key : ∀ (vs d : List (Str × α)), ((d ++ vs).map (·.1)).Nodup → vs.foldl (fun d p => dp d p.1 p.2) d = d ++ vs := by
    intro vs
    induction vs with
    | nil => intro d _; simp
    | cons p vs ih =>
      intro d h
      rw [List.foldl_cons, dp_new]
      · rw [ih]
        · simp
        · simpa using h
      · intro hm
        rw [List.map_append, List.map_cons, List.nodup_append] at h
        exact h.2.2 p.1 hm p.1 (by simp) rfl
  exact key vs [] h
/-! #### what the settings hold -/
def base : List (Str × Int) := D_BOUNDS.map fun p => (p.1, p.2.2.2)
theorem base_nd : (base.map (·.1)).Nodup := by decide +kernel
theorem base_len : base.length = 24 := by decide +kernel
theorem base_told : ∀ p ∈ base, isTold p = true := by decide +kernel
theorem base_ok : ∀ p ∈ base, PyData.strOk p.1 = true := by decide +kernel
theorem base_key {n : Str} {t : Int × Int × Int} (h : dlk D_BOUNDS n = some t) : n ∈ base.map (·.1) := by
  unfold base
  rw [List.map_map]
  exact List.mem_map.mpr ⟨_, dlk_mem h, rfl⟩
theorem key_told {p : Str × Int} (h : isTold p = true) : p.1 ∈ base.map (·.1) := by
  unfold isTold at h
  cases c : dlk D_BOUNDS p.1 with
  | none => rw [c] at h; cases h
  | some t => exact base_key c
theorem key_dlk {n : Str} (h : n ∈ base.map (·.1)) : ∃ t, dlk D_BOUNDS n = some t := by
  have : ∀ n ∈ base.map (·.1), (dlk D_BOUNDS n).isSome = true := by decide +kernel
  exact Option.isSome_iff_exists.mp (this n h)
def own (vs : List (Str × Int)) : List (Str × Int) := base.map fun p => (p.1, (dg (dop vs) p.1).getD p.2)
theorem own_keys (vs : List (Str × Int)) : (own vs).map (·.1) = base.map (·.1) := by unfold own; rw [List.map_map]; rfl
theorem own_nd (vs : List (Str × Int)) : ((own vs).map (·.1)).Nodup := by rw [own_keys]; exact base_nd
theorem own_len (vs : List (Str × Int)) : (own vs).length = 24 := by unfold own; rw [List.length_map, base_len]
theorem own_dg {vs : List (Str × Int)} {p : Str × Int} (hp : p ∈ base) : dg (own vs) p.1 = some ((dg (dop vs) p.1).getD p.2) :=
  dg_of (own_nd vs) (p := (p.1, (dg (dop vs) p.1).getD p.2)) (List.mem_map.mpr ⟨p, hp, rfl⟩)
theorem dop_own {vs : List (Str × Int)} (h : ∀ p ∈ vs, isTold p = true) : dop (base ++ vs) = own vs := by
  have e : dop (base ++ vs) = vs.foldl (fun d p => dp d p.1 p.2) base := by
    show (base ++ vs).foldl (fun d p => dp d p.1 p.2) [] = _
    rw [List.foldl_append]
    exact congrArg (fun d => vs.foldl (fun d p => dp d p.1 p.2) d) (dop_nd base_nd)
  have kf := keys_fold vs base fun p hp => key_told (h p hp)
  rw [e]
  refine dext (by rw [kf, own_keys]) (by rw [kf]; exact base_nd) fun x hx => ?_
  rw [kf] at hx
  obtain ⟨p, hp, rfl⟩ := List.mem_map.mp hx
  rw [dg_fold, own_dg hp, dg_of base_nd hp]
  cases dg (dop vs) p.1 <;> rfl
theorem own_perm {vs ws : List (Str × Int)} (p : vs.Perm ws) (h : (vs.map (·.1)).Nodup) : own vs = own ws := by
  unfold own
  rw [dop_nd h, dop_nd ((p.map _).nodup h)]
  exact List.map_congr_left fun q _ => by rw [dg_perm p h]
theorem own_told {vs : List (Str × Int)} (h : ∀ p ∈ vs, isTold p = true) (n : (vs.map (·.1)).Nodup) : ∀ p ∈ own vs, isTold p = true := by
  intro p hp
  obtain ⟨q, hq, rfl⟩ := List.mem_map.mp hp
  rw [dop_nd n]
  cases c : dg vs q.1 with
  | none => exact base_told q hq
  | some v => exact h _ (dg_some_mem c)
theorem own_own {vs ws : List (Str × Int)} (p : ws.Perm (own vs)) : own ws = own vs := by
  have n : (ws.map (·.1)).Nodup := (p.map (·.1)).nodup_iff.mpr (own_nd vs)
  rw [own_perm p n]
  refine dext (by rw [own_keys, own_keys]) (own_nd _) fun x hx => ?_
  rw [own_keys] at hx
  obtain ⟨q, hq, rfl⟩ := List.mem_map.mp hx
  rw [own_dg hq, dop_nd (own_nd vs), own_dg hq]
  rfl
theorem sv_len : (D_BOUNDS.map (·.1)).length = 24 := by decide +kernel
theorem plains {nx : List (Str × Int) → Prop} (h : nx base) : lcL (D_BOUNDS.map (·.1)) [] (fun x9 nx10 => obx (dlk D_BOUNDS x9) fun w12 => nx10 (some (x9, w12.2.2))) nx := by
  rw [lcL_map (fun x => (dlk D_BOUNDS x).map fun t => (x, t.2.2)) (fun x hx nx => by
    obtain ⟨t, e⟩ := key_dlk (n := x) (by unfold base; rw [List.map_map]; exact hx)
    rw [e, obx_some]; rfl)]
  have e : (D_BOUNDS.map (·.1)).filterMap (fun x => (dlk D_BOUNDS x).map fun t => (x, t.2.2)) = base := by decide +kernel
  rw [List.nil_append, e]
  exact h
/-- what Settings takes -/
def SvOk (vs : List (Str × Int)) : Prop := (∀ p ∈ vs, isTold p = true) ∧ (vs.map (·.1)).Nodup ∧ vs.length < 64
theorem SvOk.perm {vs ws : List (Str × Int)} (h : SvOk vs) (p : ws.Perm vs) : SvOk ws :=
  ⟨fun q hq => h.1 q (p.mem_iff.mp hq), (p.map _).nodup_iff.mpr h.2.1, by rw [p.length_eq]; exact h.2.2⟩
theorem SvOk.nil : SvOk [] := ⟨by simp, by simp, by simp⟩
theorem SvOk.few {vs : List (Str × Int)} (h : SvOk vs) : vs.length ≤ 24 := by
  have := nd_lenS h.2.1 (ys := base.map (·.1)) fun x hx => by
    obtain ⟨p, hp, rfl⟩ := List.mem_map.mp hx
    exact key_told (h.1 p hp)
  rwa [List.length_map, List.length_map, base_len] at this
theorem init_l {vs : List (Str × Int)} (h : SvOk vs) {k : SettingsS → Prop} {xr : Prop} (hk : k ⟨own vs⟩) : m_Settings___init__ vs k xr := by
  obtain ⟨h1, h2, h3⟩ := h
  unfold m_Settings___init__
  rw [grd_true (by omega)]
  rw [lcL_map (fun p => some (isTold p)) fun p _ nx => by rw [told_eq1]]
  rw [List.nil_append, List.filterMap_eq_map' (f := isTold), if_pos (by rw [List.all_map, List.all_eq_true]; exact h1)]
  rw [grd_true (by omega), lcL_some (fun p : Str × Int => p.1), List.nil_append]
  refine ⟨by rw [List.length_map]; exact h3, fun ys hn hm => ?_⟩
  dsimp only
  rw [if_pos ((nd_iff hn hm).mpr h2), grd_true (by rw [sv_len]; omega)]
  refine plains ?_
  rw [grd_true (by omega), lcL_some (fun p : Str × Int => p), List.nil_append, List.map_id', grd_true (by rw [base_len]; omega), dop_own h1]
  exact hk
theorem init_nol {vs : List (Str × Int)} (h : vs.length < 64 ∧ ¬ SvOk vs) {k : SettingsS → Prop} {xr : Prop} (hk : xr) : m_Settings___init__ vs k xr := by
  obtain ⟨h3, h⟩ := h
  unfold m_Settings___init__
  rw [grd_true (by omega)]
  rw [lcL_map (fun p => some (isTold p)) fun p _ nx => by rw [told_eq1]]
  rw [List.nil_append, List.filterMap_eq_map' (f := isTold)]
  by_cases h1 : ∀ p ∈ vs, isTold p = true
  · rw [if_pos (by rw [List.all_map, List.all_eq_true]; exact h1)]
    rw [grd_true (by omega), lcL_some (fun p : Str × Int => p.1), List.nil_append]
    refine ⟨by rw [List.length_map]; exact h3, fun ys hn hm => ?_⟩
    dsimp only
    rw [if_neg fun e => h ⟨h1, (nd_iff hn hm).mp e, h3⟩]
    exact hk
  · rw [if_neg (by rw [List.all_map, List.all_eq_true]; exact h1)]
    exact hk
theorem init_t {vs : List (Str × Int)} (h : SvOk vs) {k : SettingsS → Prop} {xr : Prop} (hk : k ⟨own vs⟩) : m_Settings___init____V_t vs k xr := by
  obtain ⟨h1, h2, h3⟩ := h
  unfold m_Settings___init____V_t
  rw [grd_true (by omega)]
  rw [lcL_map (fun p => some (isTold p)) fun p _ nx => by rw [told_eq1]]
  rw [List.nil_append, List.filterMap_eq_map' (f := isTold), if_pos (by rw [List.all_map, List.all_eq_true]; exact h1)]
  rw [grd_true (by omega), lcL_some (fun p : Str × Int => p.1), List.nil_append]
  refine ⟨by rw [List.length_map]; exact h3, fun ys hn hm => ?_⟩
  dsimp only
  rw [if_pos ((nd_iff hn hm).mpr h2), grd_true (by rw [sv_len]; omega)]
  refine plains ?_
  rw [grd_true (by omega), lcL_some (fun p : Str × Int => p), List.nil_append, List.map_id', grd_true (by rw [base_len]; omega), dop_own h1]
  exact hk
theorem init_not {vs : List (Str × Int)} (h : vs.length < 64 ∧ ¬ SvOk vs) {k : SettingsS → Prop} {xr : Prop} (hk : xr) : m_Settings___init____V_t vs k xr := by
  obtain ⟨h3, h⟩ := h
  unfold m_Settings___init____V_t
  rw [grd_true (by omega)]
  rw [lcL_map (fun p => some (isTold p)) fun p _ nx => by rw [told_eq1]]
  rw [List.nil_append, List.filterMap_eq_map' (f := isTold)]
  by_cases h1 : ∀ p ∈ vs, isTold p = true
  · rw [if_pos (by rw [List.all_map, List.all_eq_true]; exact h1)]
    rw [grd_true (by omega), lcL_some (fun p : Str × Int => p.1), List.nil_append]
    refine ⟨by rw [List.length_map]; exact h3, fun ys hn hm => ?_⟩
    dsimp only
    rw [if_neg fun e => h ⟨h1, (nd_iff hn hm).mp e, h3⟩]
    exact hk
  · rw [if_neg (by rw [List.all_map, List.all_eq_true]; exact h1)]
    exact hk
theorem own_let {vs : List (Str × Int)} : (own vs).length < 64 ∧ ∀ x ∈ own vs, PyData.strOk x.1 = true := ⟨by rw [own_len]; decide, fun x hx => by
  obtain ⟨p, hp, rfl⟩ := List.mem_map.mp hx
  exact base_ok p hp⟩
theorem told_s {vs : List (Str × Int)} {k : List (Str × Int) → Prop} : m_Settings_told ⟨own vs⟩ k = k (srtD dSI (own vs)) := by
  unfold m_Settings_told
  exact grd_true own_let
theorem value_s {vs : List (Str × Int)} {p : Str × Int} (hp : p ∈ own vs) {k : Int → Prop} : m_Settings_value ⟨own vs⟩ p.1 k = k p.2 := by
  have hk : p.1 ∈ base.map (·.1) := by rw [← own_keys vs]; exact List.mem_map_of_mem hp
  obtain ⟨t, e⟩ := key_dlk hk
  unfold m_Settings_value
  rw [if_pos (by rw [e]; rfl)]
  show obx (dg (own vs) p.1) _ = _
  rw [dg_of (own_nd vs) hp, obx_some]
theorem eq_s {vs ws : List (Str × Int)} {k : Bool → Prop} : m_Settings___eq__ ⟨own vs⟩ ⟨own ws⟩ k = k (decide (own vs = own ws)) := by
  unfold m_Settings___eq__
  congr 1
  show dqB (own vs) (own ws) = _
  unfold dqB
  by_cases h : own vs = own ws
  · rw [decide_eq_true h, h]
    simp only [decide_true, Bool.true_and, List.all_eq_true]
    intro p hp
    exact decide_eq_true (dg_of (own_nd ws) hp)
  · rw [decide_eq_false h]
    have : ¬ (own vs).all (fun p => decide (dg (own ws) p.1 = some p.2)) = true := fun ha => h (dext (by rw [own_keys, own_keys]) (own_nd _) fun x hx => by
      obtain ⟨p, hp, rfl⟩ := List.mem_map.mp hx
      rw [dg_of (own_nd vs) hp]
      exact (of_decide_eq_true (List.all_eq_true.mp ha p hp)).symm)
    rw [Bool.eq_false_iff.mpr this, Bool.and_false]
theorem srt_inj {vs ws : List (Str × Int)} : srtD dSI (own vs) = srtD dSI (own ws) ↔ own vs = own ws := by
  refine ⟨fun e => ?_, fun e => by rw [e]⟩
  have q := srtD_perm (d := dSI) (own vs)
  rw [e] at q
  have p : (own vs).Perm (own ws) := q.symm.trans (srtD_perm _)
  exact dext (by rw [own_keys, own_keys]) (own_nd _) fun x _ => dg_perm p (own_nd _) x
/-! the law's table -/
def tbl : List (Str × Int × Int × Int) := D_BOUNDS.map fun p => (p.1, p.2.1, p.2.2.1, p.2.2.2)
theorem table_eq {k : List (Str × Int × Int × Int) → Prop} : m__law_table k = k tbl := by
  unfold m__law_table
  rw [grd_true (by decide), grd_true (by decide), grd_true (by decide), grd_true (by decide), grd_true (by decide)]
  congr 1
theorem tbl_len : tbl.length = 24 := by decide +kernel
theorem tbl_at : ∀ x ∈ tbl, dlk D_BOUNDS x.1 = some (x.2.1, x.2.2.1, x.2.2.2) ∧ (0 ≤ x.2.1 ∧ x.2.1 ≤ x.2.2.1 ∧ x.2.2.1 ≤ 48) ∧ (x.1 = "line" → x.2.1 = 1 ∧ x.2.2.1 = 16) := by decide +kernel
theorem tbl_plain : ∀ x ∈ tbl, isTold (x.1, x.2.2.2) = true := by decide +kernel
theorem tbl_nd : (tbl.map (·.1)).Nodup := by decide +kernel
theorem tbl_base : tbl.map (fun x => (x.1, x.2.2.2)) = base := by decide +kernel
def isLet (n : Str) (lo hi x : Int) : Bool := if n = "line" then decide (x ∈ szs) else decide (lo ≤ x) && decide (x ≤ hi)
theorem let_eq {n : Str} {lo hi x : Int} {k : Bool → Prop} : m__law_is_let n lo hi x k = k (isLet n lo hi x) := by
  unfold m__law_is_let isLet
  by_cases h : n = "line"
  · rw [if_pos h, if_pos h]; rfl
  · rw [if_neg h, if_neg h]
    by_cases h1 : lo ≤ x
    · rw [if_pos h1, decide_eq_true h1, Bool.true_and]
    · rw [if_neg h1, decide_eq_false h1, Bool.false_and]
theorem let_told {t : Str × Int × Int × Int} (ht : t ∈ tbl) (x : Int) : isTold (t.1, x) = (decide (0 ≤ x) && isLet t.1 t.2.1 t.2.2.1 x) := by
  obtain ⟨e, hb, hl⟩ := tbl_at t ht
  unfold isTold isLet
  simp only [e]
  by_cases c : t.1 = "line"
  · obtain ⟨l1, l2⟩ := hl c
    rw [if_pos c, l1, l2]
    by_cases m : x ∈ szs
    · have : 1 ≤ x ∧ x ≤ 16 := by
        have : ∀ y ∈ szs, 1 ≤ y ∧ y ≤ 16 := by decide
        exact this x m
      simp [m, this.1, this.2]
    · simp [m, c]
  · rw [if_neg c]
    simp [c, Bool.and_assoc]
theorem due_eq {vs : List (Str × Int)} {k : List (Str × Int) → Prop} : m__law_due vs k = k (srtD dSI (own vs)) := by
  unfold m__law_due
  rw [table_eq, grd_true (by rw [tbl_len]; decide), lcL_some (fun x : Str × Int × Int × Int => (x.1, (dg (dop vs) x.1).getD x.2.2.2)), List.nil_append]
  have e : tbl.map (fun x => (x.1, (dg (dop vs) x.1).getD x.2.2.2)) = own vs := by
    unfold own
    rw [← tbl_base, List.map_map]
    rfl
  rw [e, grd_true (by rw [own_len]; decide)]
theorem jn_of {M : Type} {k : M → Prop} {f : (M → Prop) → Prop} (P : M → Prop) (h1 : ∀ x, P x → k x) (h2 : ∀ jp : M → Prop, (∀ x, P x → jp x) → f jp) : jn k f := h2 k h1
theorem refused_eq {vs : List (Str × Int)} (h : vs.length < 64) {k : Bool → Prop} (hy : SvOk vs → k false) (hn : ¬ SvOk vs → k true) : m__law_refused vs k := by
  unfold m__law_refused
  rw [jn_eq]
  dsimp only
  by_cases c : SvOk vs
  · exact init_l c (hy c)
  · refine init_nol ⟨h, c⟩ ?_
    rw [show eqb vs vs = true from decide_eq_true rfl]
    exact hn c
/-! the drawn values -/
structure Vs (i : Nat) (vs : List (Str × Int)) : Prop where
  told : ∀ p ∈ vs, isTold p = true
  sub : (vs.map (·.1)).Sublist ((tbl.take i).map (·.1))
theorem Vs.ok {i : Nat} {vs : List (Str × Int)} (h : Vs i vs) : SvOk vs := by
  have s := h.sub.trans ((List.take_sublist i tbl).map _)
  exact ⟨h.told, s.nodup tbl_nd, by have := s.length_le; rw [List.length_map, List.length_map, tbl_len] at this; omega⟩
theorem values_ok {k : List (Str × Int) → Prop} (h : ∀ vs, SvOk vs → k vs) : m__law_values k := by
  unfold m__law_values
  rw [table_eq]
  refine forL_inv (fun i vs => Vs i vs) ⟨by simp, by simp⟩ (fun i x m nx hx hm hn => ?_) fun m hm => h m hm.ok
  have hmem : x ∈ tbl := List.mem_of_getElem? hx
  obtain ⟨_, hb, _⟩ := tbl_at x hmem
  have ht : tbl.take (i + 1) = tbl.take i ++ [x] := by rw [List.take_succ, hx]; rfl
  have skip : Vs (i + 1) m := ⟨hm.told, by rw [ht, List.map_append]; exact hm.sub.trans (List.sublist_append_left _ _)⟩
  refine drw_ok ⟨by decide, by decide⟩ fun d _ _ => ?_
  by_cases c : d = 0
  · rw [if_pos c]
    refine drw_ok ⟨by omega, by omega⟩ fun d8 h1 h2 => ?_
    refine pck_ok ⟨by simp, by simp⟩ fun p9 hp => ?_
    have p0 : 0 ≤ p9 := by
      have : 0 ≤ x.2.2.2 := by
        have := tbl_plain x hmem
        rw [let_told hmem, Bool.and_eq_true] at this
        exact of_decide_eq_true this.1
      simp only [List.mem_cons, List.not_mem_nil, or_false] at hp
      rcases hp with e | e | e | e <;> omega
    refine jn_of (fun r => isTold (x.1, r) = true) (fun r hr => ?_) fun jp hj => ?_
    · rw [grd_true (by have := hm.ok.2.2; omega)]
      refine hn _ ⟨fun p hp => ?_, ?_⟩
      · rcases List.mem_append.mp hp with e | e
        · exact hm.told p e
        · rw [List.mem_singleton.mp e]; exact hr
      · rw [ht, List.map_append, List.map_append]
        exact List.Sublist.append hm.sub (List.Sublist.refl _)
    · rw [let_eq]
      by_cases c2 : isLet x.1 x.2.1 x.2.2.1 p9 = true
      · rw [if_pos c2]
        refine hj _ ?_
        rw [let_told hmem, c2, decide_eq_true p0]; rfl
      · rw [if_neg c2]
        exact hj _ (tbl_plain x hmem)
  · rw [if_neg c]
    exact hn _ skip
theorem erase_perm {α : Type} : ∀ (xs : List α) (j : Nat) (h : j < xs.length), (xs[j] :: xs.eraseIdx j).Perm xs
  | x :: xs, 0, _ => List.Perm.refl _
  | x :: xs, j + 1, h => (List.Perm.swap _ _ _).trans ((erase_perm xs j (by simpa using h)).cons x)
theorem popI_ok {α : Type} {xs : List α} {i : Int} (h : 0 ≤ i) (hb : i ≤ 1000000) (hj : i.toNat < xs.length) : popI xs i = some (i.toNat, xs[i.toNat]) := by
  unfold popI
  rw [if_pos (by omega)]
  rw [seqIndex_of h (by omega), Option.bind_some, List.getElem?_eq_getElem hj]
  rfl
theorem mixed_ok {vs : List (Str × Int)} (hl : vs.length ≤ 24) {k : List (Str × Int) → Prop} (h : ∀ ws, ws.Perm vs → k ws) : m__law_mixed vs k := by
  unfold m__law_mixed
  rw [grd_true ⟨by omega, by omega⟩]
  refine forL_inv (fun i m => (m.2 ++ m.1).Perm vs ∧ m.1.length + i = vs.length) ⟨by simp, by simp⟩ (fun i x m nx hx hm hn => ?_) fun m hm => h _ ?_
  · have hi : i < vs.length := by
      have := (List.getElem?_eq_some_iff.mp hx).1
      rw [rgI_len] at this
      omega
    refine drw_ok ⟨by omega, by omega⟩ fun d h1 h2 => ?_
    have hd : d.toNat < m.1.length := by omega
    have e : popI m.1 d = some (d.toNat, m.1[d.toNat]) := popI_ok h1 (by omega) hd
    rw [e, obx_some, grd_true (by have := hm.1.length_eq; rw [List.length_append] at this; omega)]
    refine hn _ ⟨?_, ?_⟩
    · refine List.Perm.trans ?_ hm.1
      show (m.2 ++ [m.1[d.toNat]] ++ m.1.eraseIdx d.toNat).Perm _
      rw [List.append_assoc]
      exact List.Perm.append_left _ (erase_perm m.1 _ hd)
    · show (m.1.eraseIdx d.toNat).length + (i + 1) = _
      rw [List.length_eraseIdx_of_lt hd]
      omega
  · rw [rgI_len] at hm
    have : m.1 = [] := List.length_eq_zero_iff.mp (by omega)
    have q := hm.1
    rw [this, List.append_nil] at q
    exact q
theorem law_ok (ns : List Int) (hl : ns.length ≤ 63) : m_law ns (fun b => b = true) := by
  unfold m_law
  refine values_ok fun r1 h1 => ?_
  have few1 := h1.few
  refine mixed_ok few1 fun r2 p2 => ?_
  have h2 := h1.perm p2
  have few2 := h2.few
  refine init_l h2 ?_
  rw [grd_true (by omega)]
  rw [due_eq]
  have o2 : own r2 = own r1 := own_perm p2 h2.2.1
  have due := own_own (vs := r1) (srtD_perm (d := dSI) (own r1))
  rw [o2]
  have dueOk : SvOk (srtD dSI (own r1)) := ⟨fun p hp => own_told h1.1 h1.2.1 p ((srtD_perm _).mem_iff.mp hp), ((srtD_perm (d := dSI) (own r1)).map _).nodup_iff.mpr (own_nd _), by rw [srtD_len, own_len]; decide⟩
  refine jn_of (fun c => c = false) (fun c5 hc => ?_) fun jp6 hj => ?_
  rotate_left
  · rw [told_s, if_pos rfl, grd_true (by rw [srtD_len, own_len]; decide)]
    rw [lcL_map (fun p => some p) fun p hp nx => by rw [value_s ((srtD_perm _).mem_iff.mp hp)]]
    rw [List.nil_append, List.filterMap_some, show eqb (srtD dSI (own r1)) (srtD dSI (own r1)) = true from decide_eq_true rfl]
    exact hj _ rfl
  rw [hc, if_neg (by decide), told_s, grd_true (by rw [srtD_len, own_len]; decide)]
  refine jn_of (fun c => c = false) (fun c8 hc8 => ?_) fun jp9 hj => ?_
  rotate_left
  · rw [told_s, if_pos rfl]
    refine init_t dueOk ?_
    rw [eq_s, due, decide_eq_true rfl, if_pos rfl]
    refine init_l (h1.perm (List.reverse_perm r1)) ?_
    rw [eq_s, own_perm (List.reverse_perm r1) (h1.perm (List.reverse_perm r1)).2.1, decide_eq_true rfl]
    exact hj _ rfl
  rw [hc8, if_neg (by decide), table_eq]
  refine pck_ok ⟨by rw [tbl_len]; decide, by rw [tbl_len]; decide⟩ fun p11 hp => ?_
  obtain ⟨_, hb, _⟩ := tbl_at p11 hp
  refine drw_ok ⟨by omega, by omega⟩ fun d12 _ _ => ?_
  refine forL_inv (fun _ _ => True) trivial (fun i x m nx _ _ hn => ?_) fun m _ => ?_
  · rw [grd_true (by omega), lcL_filterN (fun x : Str × Int => x.1 = p11.1), List.nil_append]
    have hlen : (r1.filter fun x => ¬ x.1 = p11.1).length ≤ r1.length := List.length_filter_le _ _
    rw [grd_true (by simp only [List.length_cons, List.length_nil]; omega)]
    have rl : ((r1.filter fun x => ¬ x.1 = p11.1) ++ [(p11.1, x)]).length < 64 := by
      rw [List.length_append]; simp only [List.length_cons, List.length_nil]; omega
    have rok : SvOk ((r1.filter fun x => ¬ x.1 = p11.1) ++ [(p11.1, x)]) ↔ isTold (p11.1, x) = true := by
      refine ⟨fun h => h.1 _ (List.mem_append_right _ (by simp)), fun h => ⟨fun p hp => ?_, ?_, rl⟩⟩
      · rcases List.mem_append.mp hp with e | e
        · exact h1.1 p (List.mem_filter.mp e).1
        · rw [List.mem_singleton.mp e]; exact h
      · rw [List.map_append, List.nodup_append]
        refine ⟨(List.filter_sublist.map _).nodup h1.2.1, by simp, fun a ha b hb => ?_⟩
        obtain ⟨q, hq, rfl⟩ := List.mem_map.mp ha
        have := (List.mem_filter.mp hq).2
        simp only [List.map_cons, List.map_nil, List.mem_singleton] at hb
        rw [hb]
        simpa using this
    refine jn_of (fun c => c = !isTold (p11.1, x)) (fun c21 hc => ?_) fun jp22 hj => ?_
    · by_cases t : isTold (p11.1, x) = true
      · rw [hc, t, if_neg (by decide)]
        refine init_l (rok.mpr t) ?_
        rw [told_s, due_eq, if_pos rfl]
        refine init_l (rok.mpr t) ?_
        rw [eq_s, due_eq]
        rw [if_pos]
        · exact hn _ trivial
        · show decide _ = decide _
          rw [decide_eq_decide]
          exact srt_inj.symm
      · rw [hc, Bool.eq_false_iff.mpr t, if_pos (by rfl)]
        refine refused_eq rl (fun h => absurd (rok.mp h) t) fun _ => ?_
        rw [if_pos rfl]
        exact hn _ trivial
    · by_cases n : x < 0
      · rw [if_pos n]
        refine hj _ ?_
        rw [let_told hp, decide_eq_false (by omega)]; rfl
      · rw [if_neg n, let_eq]
        refine hj _ ?_
        rw [let_told hp, decide_eq_true (by omega), Bool.true_and]
  · refine init_l SvOk.nil ?_
    rw [told_s, due_eq, if_pos rfl]
    have hc : (cutA r1 none (some (1 : Int))) = r1.take 1 := cutA_to (by decide)
    have hl1 : (r1.take 1).length ≤ 1 := List.length_take_le _ _
    rw [hc, grd_true (by omega)]
    refine refused_eq (by rw [List.length_append]; omega) (fun h => ?_) fun h => ?_
    · cases r1 with
      | nil => decide
      | cons p r =>
        have := h.2.1
        simp at this
    · cases r1 with
      | nil => exact absurd SvOk.nil h
      | cons p r => rfl

open PySem L2 Toy in
local macro_rules | `(tactic| walk_at "dsp") => `(tactic| first | fail "")
open PySem L2 Toy in
local macro_rules | `(tactic| walk_at "oxc") => `(tactic| first | fail ""  | exact Txt.x_InvalidValues (by (with_reducible assumption)))
open PySem L2 Toy in
local macro_rules | `(tactic| walk_at "oxn") => `(tactic| first | fail ""  | exact Txt.xn_InvalidValues_value (by (with_reducible assumption)))
open PySem L2 Toy in
local macro_rules | `(tactic| walk_at "xes") => `(tactic| first | fail ""  | exact Txt.xe_InvalidValues (by (with_reducible assumption)))
open PySem L2 Toy in
local macro_rules | `(tactic| walk_at "tqs") => `(tactic| first | fail ""  | (exact hasT_k (Txt.tq_LINE_SIZES (by (with_reducible assumption)))))
open PySem L2 Toy in
local macro_rules | `(tactic| walk_at "vts") => `(tactic| first | fail "" )
open PySem L2 Toy in
local macro_rules | `(tactic| walk_at "drc") => `(tactic| first | fail "")
open PySem L2 Toy in
local macro_rules | `(tactic| walk_at "fr1") => `(tactic| first | walk_at "fr0" | ((with_reducible refine' take_lsD ?t ?h); (case t => walk_at "fr0"); (case h => walk_at "as")) | ((with_reducible refine' take_dk0 ?t); (case t => walk_at "fr0")) | ((with_reducible refine' take_lsS ?t); (case t => walk_at "fr0")))
open PySem L2 Toy in
local macro_rules | `(tactic| walk_at "fr") => `(tactic| first | walk_at "fr0" | ((with_reducible refine' take_lsD ?t ?h); (case t => walk_at "fr0"); (case h => walk_at "as")) | ((with_reducible refine' take_dk0 ?t); (case t => walk_at "fr0")) | ((with_reducible refine' take_lsS ?t); (case t => walk_at "fr0")) | ((with_reducible refine' take_of (Sub.f_Settings ?fs)); (case fs => walk_at "subRn")))
open PySem L2 Toy in
local macro_rules | `(tactic| walk_at "fold1") => `(tactic| first | fail "" | ((refine Ent.sub (M := A_Settings _ _ _ _ :: _) ?fs ?_); (case fs => (with_reducible refine' Sub.f_Settings ?fz); (case fz => walk_at "subR"))))
open PySem L2 Toy in
local macro_rules | `(tactic| walk_at "open1") => `(tactic| first | fail "" | ((with_reducible refine' oF_Settings ?t (fun _ _ => ?_)); (case t => walk_at "fr0")) | ((with_reducible refine' oS_Settings ?t (fun _ _ => ?_)); (case t => walk_at "fr0")))
open PySem L2 Toy in
local macro_rules | `(tactic| walk_at "hi") => `(tactic| first | ((refine' hasI_pt ?h ?g); (case h => walk_at "fr0"); (case g => rfl)) | ((refine' hi_Settings ?h ?g); (case h => walk_at "fr0"); (case g => intros; rfl)))
open PySem L2 Toy in
local macro_rules | `(tactic| walk_at "tyx") => `(tactic| first | exact ty_I _ | exact ty_B _ | exact ty_S _ | ((with_reducible refine' ty_ptL ?t); (case t => walk_at "fr0")) | ((with_reducible refine' ty_ls ?t); (case t => walk_at "fr")) | ((with_reducible refine' ty_tu ?t); (case t => walk_at "fr0")) | ((with_reducible refine' ty_vTu ?t); (case t => walk_at "fr0")) | ((with_reducible refine' ty_vT ?t); (case t => walk_at "fr0")) | (with_reducible assumption) | ((refine' ty_Settings ?t (Txt.i_Settings (by (with_reducible assumption))) (Txt.c_Settings (by (with_reducible assumption)))); (case t => walk_at "fr0")))
open PySem L2 Toy in
local macro_rules | `(tactic| walk_at "kit") => `(tactic| first | exact kit_ty (by decide +kernel) | exact Txt.io_Settings (by (with_reducible assumption)) | exact Txt.ko_Settings_list (by (with_reducible assumption)))
open PySem L2 Toy in
local macro_rules | `(tactic| walk_at "ins") => `(tactic| first | fail ""  | ((refine' ins_Settings ?t); (case t => walk_at "fr0")))
open PySem L2 Toy in
local macro_rules | `(tactic| walk_at "nfst") => `(tactic| first | fail ""  | exact Txt.is_Settings (by (with_reducible assumption)) | exact Txt.nf_Settings_list (by (with_reducible assumption)))
open PySem L2 Toy in
local macro_rules | `(tactic| walk_at "kdt") => `(tactic| first | fail "" )
open PySem L2 Toy in
local macro_rules | `(tactic| walk_at "ktt") => `(tactic| first | fail "" )
open PySem L2 Toy in
local macro_rules | `(tactic| walk_at "kqt") => `(tactic| first | fail ""  | exact Txt.kq_BOUNDS (by (with_reducible assumption)))
open PySem L2 Toy in
local macro_rules | `(tactic| walk_at "ixq") => `(tactic| first | fail ""  | ((with_reducible refine' c_ixQ_BOUNDS $(Lean.mkIdent `hm) ?d (fun w $(Lean.mkIdent `hm) _ => ?_)); (case d => walk_at "kqt")))
def sp_Settings_value (K : PySem.W.Frag) (a : Ad) : Sp := fun vs H Q _ => ∃ (a_self : Addr) (self : SettingsS) (name : Str) (F : List HA) (k : Int → Prop), vs = [.ref a_self, .str name] ∧ Holds (A_Settings K a a_self self :: F) H ∧ m_Settings_value self name k ∧ ∀ r, k r → Ent (A_Settings K a a_self self :: F) (Q (.int r))
theorem e_Settings_value {K : PySem.W.Frag} {a : Ad} {L R1 : List HA} {Q : VK} {E : XK} {a_self : Addr} {self : SettingsS} {name : Str} {k : Int → Prop} (hm : m_Settings_value self name k)  (t_self : Take (A_Settings K a a_self self) L R1)  (q : ∀ r, k r → Ent (A_Settings K a a_self self :: R1) (Q (.int r))) : Ent L fun H => sp_Settings_value K a [.ref a_self, .str name] H Q E := fun H z => by
  have z0 : Holds (A_Settings K a a_self self :: R1) H := Sub.to t_self z
  exact ⟨a_self, self, name, R1, k, rfl, Sub.to (by walk_at "sub") z0, hm, q⟩
def sp_is_integer (K : PySem.W.Frag) (a : Ad) : Sp := fun vs H Q _ => ∃ (value : Int) (F : List HA) (k : Bool → Prop), vs = [.int value] ∧ Holds (F) H ∧ m_is_integer value k ∧ ∀ r, k r → Ent (F) (Q (.bl r))
theorem e_is_integer {K : PySem.W.Frag} {a : Ad} {L : List HA} {Q : VK} {E : XK} {value : Int} {k : Bool → Prop} (hm : m_is_integer value k)    (q : ∀ r, k r → Ent (L) (Q (.bl r))) : Ent L fun H => sp_is_integer K a [.int value] H Q E := fun H z => by
  have z0 : Holds (L) H := z
  exact ⟨value, L, k, rfl, Sub.to (by walk_at "sub") z0, hm, q⟩
def sp_is_count (K : PySem.W.Frag) (a : Ad) : Sp := fun vs H Q _ => ∃ (value : Int) (F : List HA) (k : Bool → Prop), vs = [.int value] ∧ Holds (F) H ∧ m_is_count value k ∧ ∀ r, k r → Ent (F) (Q (.bl r))
theorem e_is_count {K : PySem.W.Frag} {a : Ad} {L : List HA} {Q : VK} {E : XK} {value : Int} {k : Bool → Prop} (hm : m_is_count value k)    (q : ∀ r, k r → Ent (L) (Q (.bl r))) : Ent L fun H => sp_is_count K a [.int value] H Q E := fun H z => by
  have z0 : Holds (L) H := z
  exact ⟨value, L, k, rfl, Sub.to (by walk_at "sub") z0, hm, q⟩
def sp_Settings___eq__ (K : PySem.W.Frag) (a : Ad) : Sp := fun vs H Q _ => ∃ (a_self : Addr) (self : SettingsS) (a_other : Addr) (other : SettingsS) (F : List HA) (k : Bool → Prop), vs = [.ref a_self, .ref a_other] ∧ Holds (A_Settings K a a_self self :: A_Settings K a a_other other :: F) H ∧ m_Settings___eq__ self other k ∧ ∀ r, k r → Ent (A_Settings K a a_self self :: A_Settings K a a_other other :: F) (Q (.bl r))
theorem e_Settings___eq__ {K : PySem.W.Frag} {a : Ad} {L R1 R2 : List HA} {Q : VK} {E : XK} {a_self : Addr} {self : SettingsS} {a_other : Addr} {other : SettingsS} {k : Bool → Prop} (hm : m_Settings___eq__ self other k)  (t_self : Take (A_Settings K a a_self self) L R1) (t_other : Take (A_Settings K a a_other other) R1 R2)  (q : ∀ r, k r → Ent (A_Settings K a a_self self :: A_Settings K a a_other other :: R2) (Q (.bl r))) : Ent L fun H => sp_Settings___eq__ K a [.ref a_self, .ref a_other] H Q E := fun H z => by
  have z0 : Holds (A_Settings K a a_self self :: A_Settings K a a_other other :: R2) H := Sub.to (Sub.take t_self t_other) z
  exact ⟨a_self, self, a_other, other, R2, k, rfl, Sub.to (by walk_at "sub") z0, hm, q⟩
def sp_is_value (K : PySem.W.Frag) (a : Ad) : Sp := fun vs H Q _ => ∃ (name : Str) (number : Int) (F : List HA) (k : Bool → Prop), vs = [.str name, .int number] ∧ Holds (F) H ∧ m_is_value name number k ∧ ∀ r, k r → Ent (F) (Q (.bl r))
theorem e_is_value {K : PySem.W.Frag} {a : Ad} {L : List HA} {Q : VK} {E : XK} {name : Str} {number : Int} {k : Bool → Prop} (hm : m_is_value name number k)    (q : ∀ r, k r → Ent (L) (Q (.bl r))) : Ent L fun H => sp_is_value K a [.str name, .int number] H Q E := fun H z => by
  have z0 : Holds (L) H := z
  exact ⟨name, number, L, k, rfl, Sub.to (by walk_at "sub") z0, hm, q⟩
def sp_is_told (K : PySem.W.Frag) (a : Ad) : Sp := fun vs H Q _ => ∃ (value : (Str × Int)) (v_value : V) (F : List HA) (k : Bool → Prop), vs = [v_value] ∧ Holds (vl (kTup (kC (kSt (K := K)) (kC1 (kI (K := K))))) v_value value :: F) H ∧ m_is_told value k ∧ ∀ r, k r → Ent (F) (Q (.bl r))
theorem e_is_told {K : PySem.W.Frag} {a : Ad} {L : List HA} {Q : VK} {E : XK} {value : (Str × Int)} {v_value : V} {k : Bool → Prop} (hm : m_is_told value k) (h_value : Is (kTup (kC (kSt (K := K)) (kC1 (kI (K := K))))) L v_value value)   (q : ∀ r, k r → Ent (L) (Q (.bl r))) : Ent L fun H => sp_is_told K a [v_value] H Q E := fun H z => by
  have z0 : Holds (L) H := z
  have z1 := Holds.vl z0 (h_value H z)
  exact ⟨value, v_value, L, k, rfl, Sub.to (by walk_at "sub") z1, hm, q⟩
def sp_Settings___init__ (K : PySem.W.Frag) (a : Ad) : Sp := fun vs H Q E => ∃ (a_self dx_self : Addr) (a_values : Addr) (values : (List (Str × Int))) (F : List HA) (k : SettingsS → Prop) (xr : Prop), vs = [.ref a_self, .ref a_values] ∧ Holds (pt a_self (.ins a.c_Settings dx_self []) :: ls (kTup (kC (kSt (K := K)) (kC1 (kI (K := K))))) a_values values :: F) H ∧ m_Settings___init__ values k xr ∧ (∀ r, k r → Ent (A_Settings K a a_self r :: ls (kTup (kC (kSt (K := K)) (kC1 (kI (K := K))))) a_values values :: F) (Q .non)) ∧ (xr → ∀ d : Addr, Ent (im d (.xd [("value", .ref a_values)]) :: pt a_self (.ins a.c_Settings dx_self []) :: ls (kTup (kC (kSt (K := K)) (kC1 (kI (K := K))))) a_values values :: F) (E (.ref a.c_InvalidValues) (some d)))
theorem e_Settings___init__ {K : PySem.W.Frag} {a : Ad} {L R1 R2 : List HA} {Q : VK} {E : XK} {a_self dx_self : Addr} {a_values : Addr} {values : (List (Str × Int))} {k : SettingsS → Prop} {xr : Prop} (hm : m_Settings___init__ values k xr)  (t_self : Take (pt a_self (.ins a.c_Settings dx_self [])) L R1) (t_values : Take (ls (kTup (kC (kSt (K := K)) (kC1 (kI (K := K))))) a_values values) R1 R2)  (q : ∀ r, k r → Ent (A_Settings K a a_self r :: ls (kTup (kC (kSt (K := K)) (kC1 (kI (K := K))))) a_values values :: R2) (Q .non)) (qx : xr → ∀ d : Addr, Ent (im d (.xd [("value", .ref a_values)]) :: pt a_self (.ins a.c_Settings dx_self []) :: ls (kTup (kC (kSt (K := K)) (kC1 (kI (K := K))))) a_values values :: R2) (E (.ref a.c_InvalidValues) (some d))) : Ent L fun H => sp_Settings___init__ K a [.ref a_self, .ref a_values] H Q E := fun H z => by
  have z0 : Holds (pt a_self (.ins a.c_Settings dx_self []) :: ls (kTup (kC (kSt (K := K)) (kC1 (kI (K := K))))) a_values values :: R2) H := Sub.to (Sub.take t_self t_values) z
  exact ⟨a_self, dx_self, a_values, values, R2, k, xr, rfl, Sub.to (by walk_at "sub") z0, hm, q, qx⟩
def sp_Settings___init____V_t (K : PySem.W.Frag) (a : Ad) : Sp := fun vs H Q E => ∃ (a_self dx_self : Addr) (values : (List (Str × Int))) (v_values : V) (F : List HA) (k : SettingsS → Prop) (xr : Prop), vs = [.ref a_self, v_values] ∧ Holds (pt a_self (.ins a.c_Settings dx_self []) :: vl (kT (kTup (kC (kSt (K := K)) (kC1 (kI (K := K)))))) v_values values :: F) H ∧ m_Settings___init____V_t values k xr ∧ (∀ r, k r → Ent (A_Settings K a a_self r :: F) (Q .non)) ∧ (xr → ∀ d : Addr, Ent (im d (.xd [("value", v_values)]) :: pt a_self (.ins a.c_Settings dx_self []) :: F) (E (.ref a.c_InvalidValues) (some d)))
theorem e_Settings___init____V_t {K : PySem.W.Frag} {a : Ad} {L R1 : List HA} {Q : VK} {E : XK} {a_self dx_self : Addr} {values : (List (Str × Int))} {v_values : V} {k : SettingsS → Prop} {xr : Prop} (hm : m_Settings___init____V_t values k xr) (h_values : Is (kT (kTup (kC (kSt (K := K)) (kC1 (kI (K := K)))))) L v_values values) (t_self : Take (pt a_self (.ins a.c_Settings dx_self [])) L R1)  (q : ∀ r, k r → Ent (A_Settings K a a_self r :: R1) (Q .non)) (qx : xr → ∀ d : Addr, Ent (im d (.xd [("value", v_values)]) :: pt a_self (.ins a.c_Settings dx_self []) :: R1) (E (.ref a.c_InvalidValues) (some d))) : Ent L fun H => sp_Settings___init____V_t K a [.ref a_self, v_values] H Q E := fun H z => by
  have z0 : Holds (pt a_self (.ins a.c_Settings dx_self []) :: R1) H := Sub.to t_self z
  have z1 := Holds.vl z0 (h_values H z)
  exact ⟨a_self, dx_self, values, v_values, R1, k, xr, rfl, Sub.to (by walk_at "sub") z1, hm, q, qx⟩
def sp_Settings_told (K : PySem.W.Frag) (a : Ad) : Sp := fun vs H Q _ => ∃ (a_self : Addr) (self : SettingsS) (F : List HA) (k : (List (Str × Int)) → Prop), vs = [.ref a_self] ∧ Holds (A_Settings K a a_self self :: F) H ∧ m_Settings_told self k ∧ ∀ r, k r → ∀ p, Ent (ls (kTup (kC (kSt (K := K)) (kC1 (kI (K := K))))) p r :: A_Settings K a a_self self :: F) (Q (.ref p))
theorem e_Settings_told {K : PySem.W.Frag} {a : Ad} {L R1 : List HA} {Q : VK} {E : XK} {a_self : Addr} {self : SettingsS} {k : (List (Str × Int)) → Prop} (hm : m_Settings_told self k)  (t_self : Take (A_Settings K a a_self self) L R1)  (q : ∀ r, k r → ∀ p, Ent (ls (kTup (kC (kSt (K := K)) (kC1 (kI (K := K))))) p r :: A_Settings K a a_self self :: R1) (Q (.ref p))) : Ent L fun H => sp_Settings_told K a [.ref a_self] H Q E := fun H z => by
  have z0 : Holds (A_Settings K a a_self self :: R1) H := Sub.to t_self z
  exact ⟨a_self, self, R1, k, rfl, Sub.to (by walk_at "sub") z0, hm, q⟩
def sp__law_table (K : PySem.W.Frag) (a : Ad) : Sp := fun vs H Q _ => ∃  (F : List HA) (k : (List (Str × Int × Int × Int)) → Prop), vs = [] ∧ Holds (F) H ∧ m__law_table  k ∧ ∀ r, k r → ∀ p, Ent (ls (kTup (kC (kSt (K := K)) (kC (kI (K := K)) (kC (kI (K := K)) (kC1 (kI (K := K))))))) p r :: F) (Q (.ref p))
theorem e__law_table {K : PySem.W.Frag} {a : Ad} {L : List HA} {Q : VK} {E : XK}  {k : (List (Str × Int × Int × Int)) → Prop} (hm : m__law_table  k)    (q : ∀ r, k r → ∀ p, Ent (ls (kTup (kC (kSt (K := K)) (kC (kI (K := K)) (kC (kI (K := K)) (kC1 (kI (K := K))))))) p r :: L) (Q (.ref p))) : Ent L fun H => sp__law_table K a [] H Q E := fun H z => by
  have z0 : Holds (L) H := z
  exact ⟨L, k, rfl, Sub.to (by walk_at "sub") z0, hm, q⟩
def sp__law_is_let (K : PySem.W.Frag) (a : Ad) : Sp := fun vs H Q _ => ∃ (name : Str) (least : Int) (most : Int) (number : Int) (F : List HA) (k : Bool → Prop), vs = [.str name, .int least, .int most, .int number] ∧ Holds (F) H ∧ m__law_is_let name least most number k ∧ ∀ r, k r → Ent (F) (Q (.bl r))
theorem e__law_is_let {K : PySem.W.Frag} {a : Ad} {L : List HA} {Q : VK} {E : XK} {name : Str} {least : Int} {most : Int} {number : Int} {k : Bool → Prop} (hm : m__law_is_let name least most number k)    (q : ∀ r, k r → Ent (L) (Q (.bl r))) : Ent L fun H => sp__law_is_let K a [.str name, .int least, .int most, .int number] H Q E := fun H z => by
  have z0 : Holds (L) H := z
  exact ⟨name, least, most, number, L, k, rfl, Sub.to (by walk_at "sub") z0, hm, q⟩
def sp__law_refused (K : PySem.W.Frag) (a : Ad) : Sp := fun vs H Q _ => ∃ (a_values_here : Addr) (values_here : (List (Str × Int))) (F : List HA) (k : Bool → Prop), vs = [.ref a_values_here] ∧ Holds (ls (kTup (kC (kSt (K := K)) (kC1 (kI (K := K))))) a_values_here values_here :: F) H ∧ m__law_refused values_here k ∧ ∀ r, k r → Ent (ls (kTup (kC (kSt (K := K)) (kC1 (kI (K := K))))) a_values_here values_here :: F) (Q (.bl r))
theorem e__law_refused {K : PySem.W.Frag} {a : Ad} {L R1 : List HA} {Q : VK} {E : XK} {a_values_here : Addr} {values_here : (List (Str × Int))} {k : Bool → Prop} (hm : m__law_refused values_here k)  (t_values_here : Take (ls (kTup (kC (kSt (K := K)) (kC1 (kI (K := K))))) a_values_here values_here) L R1)  (q : ∀ r, k r → Ent (ls (kTup (kC (kSt (K := K)) (kC1 (kI (K := K))))) a_values_here values_here :: R1) (Q (.bl r))) : Ent L fun H => sp__law_refused K a [.ref a_values_here] H Q E := fun H z => by
  have z0 : Holds (ls (kTup (kC (kSt (K := K)) (kC1 (kI (K := K))))) a_values_here values_here :: R1) H := Sub.to t_values_here z
  exact ⟨a_values_here, values_here, R1, k, rfl, Sub.to (by walk_at "sub") z0, hm, q⟩
def sp__law_mixed (K : PySem.W.Frag) (a : Ad) : Sp := fun vs H Q _ => ∃ (a_pot_here : Addr) (a_some_ : Addr) (some_ : (List (Str × Int))) (F : List HA) (k : (List (Str × Int)) → Prop), vs = [.ref a_pot_here, .ref a_some_] ∧ Holds (PotA a_pot_here :: ls (kTup (kC (kSt (K := K)) (kC1 (kI (K := K))))) a_some_ some_ :: F) H ∧ m__law_mixed some_ k ∧ ∀ r, k r → ∀ p, Ent (ls (kTup (kC (kSt (K := K)) (kC1 (kI (K := K))))) p r :: PotA a_pot_here :: ls (kTup (kC (kSt (K := K)) (kC1 (kI (K := K))))) a_some_ some_ :: F) (Q (.ref p))
theorem e__law_mixed {K : PySem.W.Frag} {a : Ad} {L R1 R2 : List HA} {Q : VK} {E : XK} {a_pot_here : Addr} {a_some_ : Addr} {some_ : (List (Str × Int))} {k : (List (Str × Int)) → Prop} (hm : m__law_mixed some_ k)  (t_pot_here : Take (PotA a_pot_here) L R1) (t_some_ : Take (ls (kTup (kC (kSt (K := K)) (kC1 (kI (K := K))))) a_some_ some_) R1 R2)  (q : ∀ r, k r → ∀ p, Ent (ls (kTup (kC (kSt (K := K)) (kC1 (kI (K := K))))) p r :: PotA a_pot_here :: ls (kTup (kC (kSt (K := K)) (kC1 (kI (K := K))))) a_some_ some_ :: R2) (Q (.ref p))) : Ent L fun H => sp__law_mixed K a [.ref a_pot_here, .ref a_some_] H Q E := fun H z => by
  have z0 : Holds (PotA a_pot_here :: ls (kTup (kC (kSt (K := K)) (kC1 (kI (K := K))))) a_some_ some_ :: R2) H := Sub.to (Sub.take t_pot_here t_some_) z
  exact ⟨a_pot_here, a_some_, some_, R2, k, rfl, Sub.to (by walk_at "sub") z0, hm, q⟩
def sp__law_values (K : PySem.W.Frag) (a : Ad) : Sp := fun vs H Q _ => ∃ (a_pot_here : Addr) (F : List HA) (k : (List (Str × Int)) → Prop), vs = [.ref a_pot_here] ∧ Holds (PotA a_pot_here :: F) H ∧ m__law_values  k ∧ ∀ r, k r → ∀ p, Ent (ls (kTup (kC (kSt (K := K)) (kC1 (kI (K := K))))) p r :: PotA a_pot_here :: F) (Q (.ref p))
theorem e__law_values {K : PySem.W.Frag} {a : Ad} {L R1 : List HA} {Q : VK} {E : XK} {a_pot_here : Addr} {k : (List (Str × Int)) → Prop} (hm : m__law_values  k)  (t_pot_here : Take (PotA a_pot_here) L R1)  (q : ∀ r, k r → ∀ p, Ent (ls (kTup (kC (kSt (K := K)) (kC1 (kI (K := K))))) p r :: PotA a_pot_here :: R1) (Q (.ref p))) : Ent L fun H => sp__law_values K a [.ref a_pot_here] H Q E := fun H z => by
  have z0 : Holds (PotA a_pot_here :: R1) H := Sub.to t_pot_here z
  exact ⟨a_pot_here, R1, k, rfl, Sub.to (by walk_at "sub") z0, hm, q⟩
def sp__law_due (K : PySem.W.Frag) (a : Ad) : Sp := fun vs H Q _ => ∃ (a_values_here : Addr) (values_here : (List (Str × Int))) (F : List HA) (k : (List (Str × Int)) → Prop), vs = [.ref a_values_here] ∧ Holds (ls (kTup (kC (kSt (K := K)) (kC1 (kI (K := K))))) a_values_here values_here :: F) H ∧ m__law_due values_here k ∧ ∀ r, k r → ∀ p, Ent (ls (kTup (kC (kSt (K := K)) (kC1 (kI (K := K))))) p r :: ls (kTup (kC (kSt (K := K)) (kC1 (kI (K := K))))) a_values_here values_here :: F) (Q (.ref p))
theorem e__law_due {K : PySem.W.Frag} {a : Ad} {L R1 : List HA} {Q : VK} {E : XK} {a_values_here : Addr} {values_here : (List (Str × Int))} {k : (List (Str × Int)) → Prop} (hm : m__law_due values_here k)  (t_values_here : Take (ls (kTup (kC (kSt (K := K)) (kC1 (kI (K := K))))) a_values_here values_here) L R1)  (q : ∀ r, k r → ∀ p, Ent (ls (kTup (kC (kSt (K := K)) (kC1 (kI (K := K))))) p r :: ls (kTup (kC (kSt (K := K)) (kC1 (kI (K := K))))) a_values_here values_here :: R1) (Q (.ref p))) : Ent L fun H => sp__law_due K a [.ref a_values_here] H Q E := fun H z => by
  have z0 : Holds (ls (kTup (kC (kSt (K := K)) (kC1 (kI (K := K))))) a_values_here values_here :: R1) H := Sub.to t_values_here z
  exact ⟨a_values_here, values_here, R1, k, rfl, Sub.to (by walk_at "sub") z0, hm, q⟩
def sp_Settings___eq___Nlist (K : PySem.W.Frag) (a : Ad) : Sp := fun vs H Q _ => ∃ (a_self : Addr) (self : SettingsS) (y : V) (F : List HA), vs = [.ref a_self, y] ∧ Holds (A_Settings K a a_self self :: F) H ∧ (∀ H, Holds F H → TyX K H y (.type "list")) ∧ Ent (A_Settings K a a_self self :: F) (Q (.bl false))
theorem e_Settings___eq___Nlist {K : PySem.W.Frag} {a : Ad} {L R : List HA} {Q : VK} {E : XK} {a_self : Addr} {self : SettingsS} {y : V} (t : Take (A_Settings K a a_self self) L R) (ty : ∀ H, Holds R H → TyX K H y (.type "list")) (q : Ent (A_Settings K a a_self self :: R) (Q (.bl false))) : Ent L fun H => sp_Settings___eq___Nlist K a [.ref a_self, y] H Q E := fun H z => ⟨a_self, self, y, R, rfl, Sub.to t z, ty, q⟩
open PySem L2 Toy in
local macro_rules | `(tactic| walk_at "lc") => `(tactic| first | ((with_reducible refine' c_lcKQ (kB (K := $(Lean.mkIdent `K))) $(Lean.mkIdent `hm) ?t ?h (fun x nxt $(Lean.mkIdent `hm) => ?step) (fun ys $(Lean.mkIdent `hm) D => ?_)); (case t => walk_at "kqt"); (case h => decide +kernel); (case step => intro v D ys r s $(Lean.mkIdent `q1) $(Lean.mkIdent `q2); revert v; walk_at "nv"; repeat (walk_at "go"))) | ((with_reducible refine' c_lcKQ (kSt (K := $(Lean.mkIdent `K))) $(Lean.mkIdent `hm) ?t ?h (fun x nxt $(Lean.mkIdent `hm) => ?step) (fun ys $(Lean.mkIdent `hm) D => ?_)); (case t => walk_at "kqt"); (case h => decide +kernel); (case step => intro v D ys r s $(Lean.mkIdent `q1) $(Lean.mkIdent `q2); revert v; walk_at "nv"; repeat (walk_at "go"))) | ((with_reducible refine' c_lcKQ (kTup (kC (kSt (K := $(Lean.mkIdent `K))) (kC1 (kI (K := $(Lean.mkIdent `K)))))) $(Lean.mkIdent `hm) ?t ?h (fun x nxt $(Lean.mkIdent `hm) => ?step) (fun ys $(Lean.mkIdent `hm) D => ?_)); (case t => walk_at "kqt"); (case h => decide +kernel); (case step => intro v D ys r s $(Lean.mkIdent `q1) $(Lean.mkIdent `q2); revert v; walk_at "nv"; repeat (walk_at "go"))) | ((with_reducible refine' c_lcKT (kB (K := $(Lean.mkIdent `K))) $(Lean.mkIdent `hm) ?t (fun x nxt $(Lean.mkIdent `hm) => ?step) (fun ys $(Lean.mkIdent `hm) D => ?_)); (case t => walk_at "el"); (case step => intro v D ys r s $(Lean.mkIdent `q1) $(Lean.mkIdent `q2); revert v; walk_at "nv"; repeat (walk_at "go"))) | ((with_reducible refine' c_lcKT (kSt (K := $(Lean.mkIdent `K))) $(Lean.mkIdent `hm) ?t (fun x nxt $(Lean.mkIdent `hm) => ?step) (fun ys $(Lean.mkIdent `hm) D => ?_)); (case t => walk_at "el"); (case step => intro v D ys r s $(Lean.mkIdent `q1) $(Lean.mkIdent `q2); revert v; walk_at "nv"; repeat (walk_at "go"))) | ((with_reducible refine' c_lcKT (kTup (kC (kSt (K := $(Lean.mkIdent `K))) (kC1 (kI (K := $(Lean.mkIdent `K)))))) $(Lean.mkIdent `hm) ?t (fun x nxt $(Lean.mkIdent `hm) => ?step) (fun ys $(Lean.mkIdent `hm) D => ?_)); (case t => walk_at "el"); (case step => intro v D ys r s $(Lean.mkIdent `q1) $(Lean.mkIdent `q2); revert v; walk_at "nv"; repeat (walk_at "go"))) | ((with_reducible refine' c_lcLs (kB (K := $(Lean.mkIdent `K))) $(Lean.mkIdent `hm) ?t (fun x nxt $(Lean.mkIdent `hm) => ?step) (fun ys $(Lean.mkIdent `hm) D => ?_)); (case t => walk_at "fr"); (case step => intro v D ys r s $(Lean.mkIdent `q1) $(Lean.mkIdent `q2); revert v; walk_at "nv"; repeat (walk_at "go"))) | ((with_reducible refine' c_lcEn (kB (K := $(Lean.mkIdent `K))) $(Lean.mkIdent `hm) ?t (fun x nxt $(Lean.mkIdent `hm) => ?step) (fun ys $(Lean.mkIdent `hm) D => ?_)); (case t => walk_at "fr"); (case step => intro T v D ys r s $(Lean.mkIdent `q1) $(Lean.mkIdent `q2); refine Ent.swp ?_; revert v; walk_at "nv"; repeat (walk_at "go"))) | ((with_reducible refine' c_lcItI (kB (K := $(Lean.mkIdent `K))) $(Lean.mkIdent `hm) ?i ?t (fun x nxt $(Lean.mkIdent `hm) => ?step) (fun ys $(Lean.mkIdent `hm) D => ?_)); (case i => (try dsimp only); rfl); (case t => walk_at "fr0"); (case step => intro od kvs T v D ys r s $(Lean.mkIdent `q1) $(Lean.mkIdent `q2); refine Ent.swp ?_; revert v; walk_at "nv"; repeat (walk_at "go"))) | ((with_reducible refine' c_lcR1 (kB (K := $(Lean.mkIdent `K))) $(Lean.mkIdent `hm) (fun x nxt $(Lean.mkIdent `hm) => ?step) (fun ys $(Lean.mkIdent `hm) D => ?_)); (case step => intro v D ys r s $(Lean.mkIdent `q1) $(Lean.mkIdent `q2); revert v; walk_at "nv"; repeat (walk_at "go"))) | ((with_reducible refine' c_lcR2 (kB (K := $(Lean.mkIdent `K))) $(Lean.mkIdent `hm) (fun x nxt $(Lean.mkIdent `hm) => ?step) (fun ys $(Lean.mkIdent `hm) D => ?_)); (case step => intro v D ys r s $(Lean.mkIdent `q1) $(Lean.mkIdent `q2); revert v; walk_at "nv"; repeat (walk_at "go"))) | ((with_reducible refine' c_lcLs (kSt (K := $(Lean.mkIdent `K))) $(Lean.mkIdent `hm) ?t (fun x nxt $(Lean.mkIdent `hm) => ?step) (fun ys $(Lean.mkIdent `hm) D => ?_)); (case t => walk_at "fr"); (case step => intro v D ys r s $(Lean.mkIdent `q1) $(Lean.mkIdent `q2); revert v; walk_at "nv"; repeat (walk_at "go"))) | ((with_reducible refine' c_lcEn (kSt (K := $(Lean.mkIdent `K))) $(Lean.mkIdent `hm) ?t (fun x nxt $(Lean.mkIdent `hm) => ?step) (fun ys $(Lean.mkIdent `hm) D => ?_)); (case t => walk_at "fr"); (case step => intro T v D ys r s $(Lean.mkIdent `q1) $(Lean.mkIdent `q2); refine Ent.swp ?_; revert v; walk_at "nv"; repeat (walk_at "go"))) | ((with_reducible refine' c_lcItI (kSt (K := $(Lean.mkIdent `K))) $(Lean.mkIdent `hm) ?i ?t (fun x nxt $(Lean.mkIdent `hm) => ?step) (fun ys $(Lean.mkIdent `hm) D => ?_)); (case i => (try dsimp only); rfl); (case t => walk_at "fr0"); (case step => intro od kvs T v D ys r s $(Lean.mkIdent `q1) $(Lean.mkIdent `q2); refine Ent.swp ?_; revert v; walk_at "nv"; repeat (walk_at "go"))) | ((with_reducible refine' c_lcR1 (kSt (K := $(Lean.mkIdent `K))) $(Lean.mkIdent `hm) (fun x nxt $(Lean.mkIdent `hm) => ?step) (fun ys $(Lean.mkIdent `hm) D => ?_)); (case step => intro v D ys r s $(Lean.mkIdent `q1) $(Lean.mkIdent `q2); revert v; walk_at "nv"; repeat (walk_at "go"))) | ((with_reducible refine' c_lcR2 (kSt (K := $(Lean.mkIdent `K))) $(Lean.mkIdent `hm) (fun x nxt $(Lean.mkIdent `hm) => ?step) (fun ys $(Lean.mkIdent `hm) D => ?_)); (case step => intro v D ys r s $(Lean.mkIdent `q1) $(Lean.mkIdent `q2); revert v; walk_at "nv"; repeat (walk_at "go"))) | ((with_reducible refine' c_lcLs (kTup (kC (kSt (K := $(Lean.mkIdent `K))) (kC1 (kI (K := $(Lean.mkIdent `K)))))) $(Lean.mkIdent `hm) ?t (fun x nxt $(Lean.mkIdent `hm) => ?step) (fun ys $(Lean.mkIdent `hm) D => ?_)); (case t => walk_at "fr"); (case step => intro v D ys r s $(Lean.mkIdent `q1) $(Lean.mkIdent `q2); revert v; walk_at "nv"; repeat (walk_at "go"))) | ((with_reducible refine' c_lcEn (kTup (kC (kSt (K := $(Lean.mkIdent `K))) (kC1 (kI (K := $(Lean.mkIdent `K)))))) $(Lean.mkIdent `hm) ?t (fun x nxt $(Lean.mkIdent `hm) => ?step) (fun ys $(Lean.mkIdent `hm) D => ?_)); (case t => walk_at "fr"); (case step => intro T v D ys r s $(Lean.mkIdent `q1) $(Lean.mkIdent `q2); refine Ent.swp ?_; revert v; walk_at "nv"; repeat (walk_at "go"))) | ((with_reducible refine' c_lcItI (kTup (kC (kSt (K := $(Lean.mkIdent `K))) (kC1 (kI (K := $(Lean.mkIdent `K)))))) $(Lean.mkIdent `hm) ?i ?t (fun x nxt $(Lean.mkIdent `hm) => ?step) (fun ys $(Lean.mkIdent `hm) D => ?_)); (case i => (try dsimp only); rfl); (case t => walk_at "fr0"); (case step => intro od kvs T v D ys r s $(Lean.mkIdent `q1) $(Lean.mkIdent `q2); refine Ent.swp ?_; revert v; walk_at "nv"; repeat (walk_at "go"))) | ((with_reducible refine' c_lcR1 (kTup (kC (kSt (K := $(Lean.mkIdent `K))) (kC1 (kI (K := $(Lean.mkIdent `K)))))) $(Lean.mkIdent `hm) (fun x nxt $(Lean.mkIdent `hm) => ?step) (fun ys $(Lean.mkIdent `hm) D => ?_)); (case step => intro v D ys r s $(Lean.mkIdent `q1) $(Lean.mkIdent `q2); revert v; walk_at "nv"; repeat (walk_at "go"))) | ((with_reducible refine' c_lcR2 (kTup (kC (kSt (K := $(Lean.mkIdent `K))) (kC1 (kI (K := $(Lean.mkIdent `K)))))) $(Lean.mkIdent `hm) (fun x nxt $(Lean.mkIdent `hm) => ?step) (fun ys $(Lean.mkIdent `hm) D => ?_)); (case step => intro v D ys r s $(Lean.mkIdent `q1) $(Lean.mkIdent `q2); revert v; walk_at "nv"; repeat (walk_at "go"))))
open PySem L2 Toy in
local macro_rules | `(tactic| walk_at "cE") => `(tactic| first | ((with_reducible refine' c_cutE (kI (K := $(Lean.mkIdent `K))) $(Lean.mkIdent `hm) (fun jp $(Lean.mkIdent `hm) => ?q) (fun x $(Lean.mkIdent `hm) => ?_)); (case q => repeat (walk_at "go")); walk_at "nv"))
open PySem L2 Toy in
local macro_rules | `(tactic| walk_at "rpr") => `(tactic| first | fail)
open PySem L2 Toy in
local macro_rules | `(tactic| walk_at "frz") => `(tactic| first | fail)
open PySem L2 Toy in
local macro_rules | `(tactic| walk_at "tslc") => `(tactic| first | fail "")
open PySem L2 Toy in
local macro_rules | `(tactic| walk_at "tcat") => `(tactic| first | fail "")
open PySem L2 Toy in
local macro_rules | `(tactic| walk_at "lcS") => `(tactic| first | ((with_reducible refine' c_lcSq (kB (K := $(Lean.mkIdent `K))) $(Lean.mkIdent `hm) ?t (fun x nxt $(Lean.mkIdent `hm) => ?step) (fun ys $(Lean.mkIdent `hm) D => ?_)); (case t => walk_at "sq2"); (case step => intro v D ys r s $(Lean.mkIdent `q1) $(Lean.mkIdent `q2); revert v; walk_at "nv"; repeat (walk_at "go"))) | ((with_reducible refine' c_lcFz (kB (K := $(Lean.mkIdent `K))) $(Lean.mkIdent `hm) ?t (fun x nxt $(Lean.mkIdent `hm) => ?step) (fun ys $(Lean.mkIdent `hm) D => ?_)); (case t => walk_at "fr0"); (case step => intro v D ys r s $(Lean.mkIdent `q1) $(Lean.mkIdent `q2); revert v; walk_at "nv"; repeat (walk_at "go"))) | ((with_reducible refine' c_lcSq (kSt (K := $(Lean.mkIdent `K))) $(Lean.mkIdent `hm) ?t (fun x nxt $(Lean.mkIdent `hm) => ?step) (fun ys $(Lean.mkIdent `hm) D => ?_)); (case t => walk_at "sq2"); (case step => intro v D ys r s $(Lean.mkIdent `q1) $(Lean.mkIdent `q2); revert v; walk_at "nv"; repeat (walk_at "go"))) | ((with_reducible refine' c_lcFz (kSt (K := $(Lean.mkIdent `K))) $(Lean.mkIdent `hm) ?t (fun x nxt $(Lean.mkIdent `hm) => ?step) (fun ys $(Lean.mkIdent `hm) D => ?_)); (case t => walk_at "fr0"); (case step => intro v D ys r s $(Lean.mkIdent `q1) $(Lean.mkIdent `q2); revert v; walk_at "nv"; repeat (walk_at "go"))) | ((with_reducible refine' c_lcSq (kTup (kC (kSt (K := $(Lean.mkIdent `K))) (kC1 (kI (K := $(Lean.mkIdent `K)))))) $(Lean.mkIdent `hm) ?t (fun x nxt $(Lean.mkIdent `hm) => ?step) (fun ys $(Lean.mkIdent `hm) D => ?_)); (case t => walk_at "sq2"); (case step => intro v D ys r s $(Lean.mkIdent `q1) $(Lean.mkIdent `q2); revert v; walk_at "nv"; repeat (walk_at "go"))) | ((with_reducible refine' c_lcFz (kTup (kC (kSt (K := $(Lean.mkIdent `K))) (kC1 (kI (K := $(Lean.mkIdent `K)))))) $(Lean.mkIdent `hm) ?t (fun x nxt $(Lean.mkIdent `hm) => ?step) (fun ys $(Lean.mkIdent `hm) D => ?_)); (case t => walk_at "fr0"); (case step => intro v D ys r s $(Lean.mkIdent `q1) $(Lean.mkIdent `q2); revert v; walk_at "nv"; repeat (walk_at "go"))))
open PySem L2 Toy in
local macro_rules | `(tactic| walk_at "rep") => `(tactic| first | fail)
open PySem L2 Toy in
local macro_rules | `(tactic| walk_at "cat") => `(tactic| first | ((with_reducible refine' c_cat (E := (kTup (kC (kSt (K := $(Lean.mkIdent `K))) (kC1 (kI (K := $(Lean.mkIdent `K))))))) $(Lean.mkIdent `hm) ?t ?g (fun $(Lean.mkIdent `hm) _ => ?_)); (case t => walk_at "fr"); (case g => walk_at "fr")) | ((with_reducible refine' c_catZ (kTup (kC (kSt (K := $(Lean.mkIdent `K))) (kC1 (kI (K := $(Lean.mkIdent `K)))))) $(Lean.mkIdent `hm) ?t ?g (fun $(Lean.mkIdent `hm) _ => ?_)); (case t => walk_at "rdl"); (case g => walk_at "rdl")) | ((with_reducible refine' c_cat (E := (kTup (kC (kSt (K := $(Lean.mkIdent `K))) (kC (kI (K := $(Lean.mkIdent `K))) (kC (kI (K := $(Lean.mkIdent `K))) (kC1 (kI (K := $(Lean.mkIdent `K))))))))) $(Lean.mkIdent `hm) ?t ?g (fun $(Lean.mkIdent `hm) _ => ?_)); (case t => walk_at "fr"); (case g => walk_at "fr")) | ((with_reducible refine' c_catZ (kTup (kC (kSt (K := $(Lean.mkIdent `K))) (kC (kI (K := $(Lean.mkIdent `K))) (kC (kI (K := $(Lean.mkIdent `K))) (kC1 (kI (K := $(Lean.mkIdent `K)))))))) $(Lean.mkIdent `hm) ?t ?g (fun $(Lean.mkIdent `hm) _ => ?_)); (case t => walk_at "rdl"); (case g => walk_at "rdl")))
open PySem L2 Toy in
local macro_rules | `(tactic| walk_at "sF") => `(tactic| first
  | ((with_reducible refine' e_Settings_value $(Lean.mkIdent `hm)  ?t_self  (fun _ $(Lean.mkIdent `hm) => ?_)); (case t_self => walk_at "fr"))
  | ((with_reducible refine' e_is_integer $(Lean.mkIdent `hm)    (fun _ $(Lean.mkIdent `hm) => ?_)))
  | ((with_reducible refine' e_is_count $(Lean.mkIdent `hm)    (fun _ $(Lean.mkIdent `hm) => ?_)))
  | ((with_reducible refine' e_Settings___eq__ $(Lean.mkIdent `hm)  ?t_self ?t_other  (fun _ $(Lean.mkIdent `hm) => ?_)); (case t_self => walk_at "fr"); (case t_other => walk_at "fr"))
  | ((with_reducible refine' e_is_value $(Lean.mkIdent `hm)    (fun _ $(Lean.mkIdent `hm) => ?_)))
  | ((with_reducible refine' e_is_told $(Lean.mkIdent `hm) ?h_value   (fun _ $(Lean.mkIdent `hm) => ?_)); (case h_value => walk_at "el"))
  | ((with_reducible refine' e_Settings___init__ $(Lean.mkIdent `hm)  ?t_self ?t_values  (fun _ $(Lean.mkIdent `hm) => ?_) (fun $(Lean.mkIdent `hm) d => ?qxo)); (case t_self => walk_at "fr"); (case t_values => walk_at "fr"); (case qxo => walk_at "exo"))
  | ((with_reducible refine' e_Settings___init____V_t $(Lean.mkIdent `hm) ?h_values ?t_self  (fun _ $(Lean.mkIdent `hm) => ?_) (fun $(Lean.mkIdent `hm) d => ?qxo)); (case h_values => walk_at "el"); (case t_self => walk_at "fr"); (case qxo => walk_at "exo"))
  | ((with_reducible refine' e_Settings_told $(Lean.mkIdent `hm)  ?t_self  (fun _ $(Lean.mkIdent `hm) => ?_)); (case t_self => walk_at "fr"); walk_at "nv")
  | ((with_reducible refine' e__law_table $(Lean.mkIdent `hm)    (fun _ $(Lean.mkIdent `hm) => ?_)); walk_at "nv")
  | ((with_reducible refine' e__law_is_let $(Lean.mkIdent `hm)    (fun _ $(Lean.mkIdent `hm) => ?_)))
  | ((with_reducible refine' e__law_refused $(Lean.mkIdent `hm)  ?t_values_here  (fun _ $(Lean.mkIdent `hm) => ?_)); (case t_values_here => walk_at "fr"))
  | ((with_reducible refine' e__law_mixed $(Lean.mkIdent `hm)  ?t_pot_here ?t_some_  (fun _ $(Lean.mkIdent `hm) => ?_)); (case t_pot_here => walk_at "fr"); (case t_some_ => walk_at "fr"); walk_at "nv")
  | ((with_reducible refine' e__law_values $(Lean.mkIdent `hm)  ?t_pot_here  (fun _ $(Lean.mkIdent `hm) => ?_)); (case t_pot_here => walk_at "fr"); walk_at "nv")
  | ((with_reducible refine' e__law_due $(Lean.mkIdent `hm)  ?t_values_here  (fun _ $(Lean.mkIdent `hm) => ?_)); (case t_values_here => walk_at "fr"); walk_at "nv")
  | ((with_reducible refine' e_Settings___eq___Nlist ?t ?ty ?_); (case t => walk_at "fr0"); (case ty => walk_at "tyx")))

section
variable {P : Program} {w : World} {K : PySem.W.Frag} {mg : Str → Option Value} {base : Heap} {a : Ad}
theorem ok_Settings_value (T : Txt w K mg a) : FnOk P w K mg base (L2.CX P w) 3 a.f_Settings_value a.d_Settings_value ["self", "name"] (sp_Settings_value K a) := by
  refine T.F_Settings_value.okX sc_Settings_value (fun vs H Q E h => ?_) (fun cdv A outer s H vs Q E hr h => ?_)
  · obtain ⟨_, _, _, _, _, rfl, _⟩ := h
    rfl
  · obtain ⟨a_self, self, name, F, k, rfl, hH, hm, q⟩ := h
    refine ⟨_, (pss_cons (ps_if (PW.pt (pw_or (pt_not (pt_val (pe_callB (isiK (K := K)) (by rfl) T.z_isinstance (by decide +kernel) (pa_cons (pv 1) (pa_cons (pe_bltn (v := .ty "str") (u := .type "str") (by rfl) T.z_str (by decide +kernel) rfl) pa_nil))))) (pw_or1 (pt_cmpR (op_niKT (K := K) (w := w)) (pv 1) (pe_glob (v := .ref a.t_BOUNDS) (by rfl) T.v_BOUNDS rfl) (by rfl))))) (pss_one ps_never) pss_nil)
      (pss_one (ps_ret (pe_dget hr.units1 (pe_fld (pv 0) rfl) (pv 1) (fun _ _ => rfl))))), ?_⟩
    try simp only [cxOf_K]
    refine w_in (σ := [some _, some _]) rfl ?_
    refine Holds.go hH ?_
    unfold m_Settings_value at hm
    repeat (walk_at "go")
theorem ok_CoreError___init__ (T : Txt w K mg a) : FnOk P w K mg base (L2.CX P w) 4 a.f_CoreError___init__ a.d_CoreError___init__ ["self", "value"] (spCore K) := by
  refine T.F_CoreError___init__.okX sc_CoreError___init__ (fun vs H Q E h => ?_) (fun cdv A outer s H vs Q E hr h => ?_)
  · obtain ⟨_, _, _, rfl, _⟩ := h
    rfl
  · obtain ⟨x, C, v, rfl, hC, hn, hx, k⟩ := h
    refine ⟨_, (pss_one (ps_ost (pv 0) (pv 1))), ?_⟩
    exact ⟨_, rfl, _, rfl, x, C, rfl, hC, hn, .inl ⟨hx, fun dx n ne => k dx n ne⟩⟩
theorem ok_is_integer (T : Txt w K mg a) : FnOk P w K mg base (L2.CX P w) 1 a.f_is_integer a.d_is_integer ["value"] (sp_is_integer K a) := by
  refine T.F_is_integer.okX sc_is_integer (fun vs H Q E h => ?_) (fun cdv A outer s H vs Q E hr h => ?_)
  · obtain ⟨_, _, _, rfl, _⟩ := h
    rfl
  · obtain ⟨value, F, k, rfl, hH, hm, q⟩ := h
    refine ⟨_, (pss_one (ps_ret (pe_and (pe_callB (isiK (K := K)) (by rfl) T.z_isinstance (by decide +kernel) (pa_cons (pv 0) (pa_cons (pe_bltn (v := .ty "int") (u := .type "int") (by rfl) T.z_int (by decide +kernel) rfl) pa_nil))) (pe_one (pe_not (pe_callB (isiK (K := K)) (by rfl) T.z_isinstance (by decide +kernel) (pa_cons (pv 0) (pa_cons (pe_bltn (v := .ty "bool") (u := .type "bool") (by rfl) T.z_bool (by decide +kernel) rfl) pa_nil)))))))), ?_⟩
    try simp only [cxOf_K]
    refine w_in (σ := [some _]) rfl ?_
    refine Holds.go hH ?_
    unfold m_is_integer at hm
    repeat (walk_at "go")
theorem ok_is_count (T : Txt w K mg a) : FnOk P w K mg base (L2.CX P w) 2 a.f_is_count a.d_is_count ["value"] (sp_is_count K a) := by
  refine T.F_is_count.okX sc_is_count (fun vs H Q E h => ?_) (fun cdv A outer s H vs Q E hr h => ?_)
  · obtain ⟨_, _, _, rfl, _⟩ := h
    rfl
  · obtain ⟨value, F, k, rfl, hH, hm, q⟩ := h
    refine ⟨_, (pss_one (ps_ret (pe_and (pe_call (ok_is_integer (K := K) T) (hr.mono (by decide)) (by rfl) T.m_is_integer T.F_is_integer.kp T.b_is_integer .nil passL (pa_cons (pv 0) pa_nil)) (pe_one (pe_cmpR op_ge (pv 0) pe_int (nomark _)))))), ?_⟩
    try simp only [cxOf_K]
    refine w_in (σ := [some _]) rfl ?_
    refine Holds.go hH ?_
    unfold m_is_count at hm
    repeat (walk_at "go")
theorem ok_is_list (T : Txt w K mg a) : FnOk P w K mg base (L2.CX P w) 1 a.f_is_list a.d_is_list ["value"] (spList K) := by
  refine T.F_is_list.okX sc_is_list (fun vs H Q E h => ?_) (fun cdv A outer s H vs Q E hr h => ?_)
  · obtain ⟨_, _, _, rfl, _⟩ := h
    rfl
  · obtain ⟨v, t, b, rfl, ty, e, k⟩ := h
    refine ⟨_, (pss_one (ps_ret (pe_callB call_isiT (by rfl) T.z_isinstance (by decide +kernel) (pa_cons (pv 0) (pa_cons (pe_tup (pa_cons (pe_bltn (v := .ty "list") (u := .type "list") (by rfl) T.z_list (by decide +kernel) rfl) (pa_cons (pe_bltn (v := .ty "tuple") (u := .type "tuple") (by rfl) T.z_tuple (by decide +kernel) rfl) pa_nil))) pa_nil))))), ?_⟩
    refine ⟨_, rfl, by show 2 ≤ sizeLine; decide, fun p np => ?_⟩
    refine ⟨v, p, _, t, _, b, rfl, upd_same, .cons (.ty "list") (.cons (.ty "tuple") .nil), same_ty (same_new np) ty, e, k _ (same_new np)⟩
theorem ok_Settings___eq__ (T : Txt w K mg a) : FnOk P w K mg base (L2.CX P w) 8 a.f_Settings___eq__ a.d_Settings___eq__ ["self", "other"] (sp_Settings___eq__ K a) := by
  refine T.F_Settings___eq__.okX sc_Settings___eq__ (fun vs H Q E h => ?_) (fun cdv A outer s H vs Q E hr h => ?_)
  · obtain ⟨_, _, _, _, _, _, rfl, _⟩ := h
    rfl
  · obtain ⟨a_self, self, a_other, other, F, k, rfl, hH, hm, q⟩ := h
    refine ⟨_, (pss_cons (ps_if (pt_not (pt_val (pe_callB (isiK (K := K)) (by rfl) T.z_isinstance (by decide +kernel) (pa_cons (pv 1) (pa_cons (pe_glob (v := .ref a.c_Settings) (by rfl) T.g_Settings rfl) pa_nil))))) (pss_one (ps_ret pe_bl)) pss_nil)
      (pss_one (ps_ret (pe_cmpR (op_eqDI (Nat.lt_of_le_of_lt (Nat.le_add_right _ 64) hr.units)) (pe_fld (pv 0) rfl) (pe_fld (pv 1) rfl) (nomark _))))), ?_⟩
    try simp only [cxOf_K]
    refine w_in (σ := [some _, some _]) rfl ?_
    refine Holds.go hH ?_
    unfold m_Settings___eq__ at hm
    repeat (walk_at "go")
theorem ok_Settings___eq___Nlist (T : Txt w K mg a) : FnOk P w K mg base (L2.CX P w) 8 a.f_Settings___eq__ a.d_Settings___eq__ ["self", "other"] (sp_Settings___eq___Nlist K a) := by
  refine T.F_Settings___eq__.okX sc_Settings___eq__ (fun vs H Q E h => ?_) (fun cdv A outer s H vs Q E hr h => ?_)
  · obtain ⟨_, _, _, _, rfl, _⟩ := h
    rfl
  · obtain ⟨a_self, self, y, F, rfl, hH, tyN0, q⟩ := h
    have tyN : ∀ H, Holds (A_Settings K a a_self self :: F) H → TyX K H y (.type "list") := fun H h => tyN0 H (Sub.to (Sub.drop Sub.refl) h)
    refine ⟨_, (pss_cons (ps_if (pt_not (pt_val (pe_callB (isiK (K := K)) (by rfl) T.z_isinstance (by decide +kernel) (pa_cons (pv 1) (pa_cons (pe_glob (v := .ref a.c_Settings) (by rfl) T.g_Settings rfl) pa_nil))))) (pss_one (ps_ret pe_bl)) pss_nil)
      (pss_one (ps_ret (pe_cmpR (op_eqDI (Nat.lt_of_le_of_lt (Nat.le_add_right _ 64) hr.units)) (pe_fld (pv 0) rfl) (pe_fld (pv 1) rfl) (nomark _))))), ?_⟩
    try simp only [cxOf_K]
    refine w_in (σ := [some _, some _]) rfl ?_
    refine Holds.go hH ?_
    repeat (walk_at "go")
    exact q
theorem ok_is_value (T : Txt w K mg a) : FnOk P w K mg base (L2.CX P w) 3 a.f_is_value a.d_is_value ["name", "number"] (sp_is_value K a) := by
  refine T.F_is_value.okX sc_is_value (fun vs H Q E h => ?_) (fun cdv A outer s H vs Q E hr h => ?_)
  · obtain ⟨_, _, _, _, rfl, _⟩ := h
    rfl
  · obtain ⟨name, number, F, k, rfl, hH, hm, q⟩ := h
    refine ⟨_, (pss_cons (ps_if (PW.pt (pw_or (pt_not (pt_val (pe_call (ok_is_count (K := K) T) (hr.mono (by decide)) (by rfl) T.m_is_count T.F_is_count.kp T.b_is_count .nil passL (pa_cons (pv 1) pa_nil)))) (pw_or1 (pt_not (pt_chain op_le op_le (pe_ix ix_tup (pe_ix (ixKD (K := K) (w := w)) (pe_glob (v := .ref a.t_BOUNDS) (by rfl) T.v_BOUNDS rfl) (pv 0) (fun _ _ => rfl)) pe_int (fun _ _ => rfl)) (pv 1) (pe_ix ix_tup (pe_ix (ixKD (K := K) (w := w)) (pe_glob (v := .ref a.t_BOUNDS) (by rfl) T.v_BOUNDS rfl) (pv 0) (fun _ _ => rfl)) pe_int (fun _ _ => rfl))))))) (pss_one (ps_ret pe_bl)) pss_nil)
      (pss_one (ps_ret (pe_or (pe_cmpR op_ne (pv 0) pe_str (nomark _)) (pe_one (pe_cmpR op_in_seq (pv 1) (pe_glob (v := .ref a.t_LINE_SIZES) (by rfl) T.v_LINE_SIZES rfl) (by rfl))))))), ?_⟩
    try simp only [cxOf_K]
    refine w_in (σ := [some _, some _]) rfl ?_
    refine Holds.go hH ?_
    unfold m_is_value at hm
    repeat (walk_at "go")
theorem ok_is_told (T : Txt w K mg a) : FnOk P w K mg base (L2.CX P w) 4 a.f_is_told a.d_is_told ["value"] (sp_is_told K a) := by
  refine T.F_is_told.okX sc_is_told (fun vs H Q E h => ?_) (fun cdv A outer s H vs Q E hr h => ?_)
  · obtain ⟨_, _, _, _, rfl, _⟩ := h
    rfl
  · obtain ⟨value, v_value, F, k, rfl, hH, hm, q⟩ := h
    refine ⟨_, (pss_cons (ps_if (PW.pt (pw_or (pt_not (pt_val (pe_callB (isiK (K := K)) (by rfl) T.z_isinstance (by decide +kernel) (pa_cons (pv 0) (pa_cons (pe_bltn (v := .ty "tuple") (u := .type "tuple") (by rfl) T.z_tuple (by decide +kernel) rfl) pa_nil))))) (pw_or (pt_cmpR op_ne (pe_callB (call_lenK (K := K)) (by rfl) T.z_len (by decide +kernel) (pa_cons (pv 0) pa_nil)) pe_int (nomark _)) (pw_or1 (pt_not (pt_val (pe_callB (isiK (K := K)) (by rfl) T.z_isinstance (by decide +kernel) (pa_cons (pe_ix ix_tup (pv 0) pe_int (fun _ _ => rfl)) (pa_cons (pe_bltn (v := .ty "str") (u := .type "str") (by rfl) T.z_str (by decide +kernel) rfl) pa_nil))))))))) (pss_one (ps_ret pe_bl)) pss_nil)
      (pss_one (ps_ret (pe_and (pe_cmpR (op_inKT (K := K) (w := w)) (pe_ix ix_tup (pv 0) pe_int (fun _ _ => rfl)) (pe_glob (v := .ref a.t_BOUNDS) (by rfl) T.v_BOUNDS rfl) (by rfl)) (pe_one (pe_call (ok_is_value (K := K) T) (hr.mono (by decide)) (by rfl) T.m_is_value T.F_is_value.kp T.b_is_value .nil passL (pa_cons (pe_ix ix_tup (pv 0) pe_int (fun _ _ => rfl)) (pa_cons (pe_ix ix_tup (pv 0) pe_int (fun _ _ => rfl)) pa_nil)))))))), ?_⟩
    try simp only [cxOf_K]
    refine w_in (σ := [some _]) rfl ?_
    refine Holds.go hH ?_
    unfold m_is_told at hm
    repeat (walk_at "go")
theorem ok_Settings___init__ (T : Txt w K mg a) : FnOk P w K mg base (L2.CX P w) 6 a.f_Settings___init__ a.d_Settings___init__ ["self", "values"] (sp_Settings___init__ K a) := by
  refine T.F_Settings___init__.okX sc_Settings___init__ (fun vs H Q E h => ?_) (fun cdv A outer s H vs Q E hr h => ?_)
  · obtain ⟨_, _, _, _, _, _, _, rfl, _⟩ := h
    rfl
  · obtain ⟨a_self, dx_self, a_values, values, F, k, xr, rfl, hH, hm, q, qx⟩ := h
    refine ⟨_, (pss_cons (ps_if (PW.pt (pw_or (pt_not (pt_val (pe_call (ok_is_list (K := K) T) (hr.mono (by decide)) (by rfl) T.m_is_list T.F_is_list.kp T.b_is_list .nil passL (pa_cons (pv 1) pa_nil)))) (pw_or1 (pt_not (pt_val (pe_callB (cr_all rfl) (by rfl) T.z_all (by decide +kernel) (pa_cons (pe_lc (own := [("one", 3)]) (g := gName 3) (tt := tYes) rfl sc_Settings___init__.nd (pi_list (pv 1)) (blkOk_by (N := ["self", "values", "names", "one", "name"]) (sc := defScope s_Settings___init__) (by decide +kernel)) (fun _ _ _ _ _ => (pg_name (i := 3) sc_Settings___init__.nd rfl (Or.inl rfl))) (fun _ _ _ _ _ => pts_nil) (fun _ _ _ _ _ => (pe_call (ok_is_told (K := K) T) (hr.mono (by decide)) (by rfl) T.m_is_told T.F_is_told.kp T.b_is_told .nil passL (pa_cons (pv 3) pa_nil)))) pa_nil))))))) (pss_one (ps_raise rfl (takes_of rfl rfl rfl rfl) (pmk_oex T.x_InvalidValues T.xi_InvalidValues T.xt_CoreError___init__ (ok_CoreError___init__ (K := K) T) (hr.mono (by decide)) T.b_CoreError___init__ .nil passL (by rfl) T.g_InvalidValues (pa_cons (pv 1) pa_nil)))) pss_nil)
      (pss_cons (ps_setLc (i := 2) (own := [("one", 3)]) (g := gName 3) (tt := tYes) rfl sc_Settings___init__.nd rfl rfl (sw_true rfl rfl rfl (by decide +kernel)) (pi_list (pv 1)) (blkOk_by (N := ["self", "values", "names", "one", "name"]) (sc := defScope s_Settings___init__) (by decide +kernel)) (fun _ _ _ _ _ => (pg_name (i := 3) sc_Settings___init__.nd rfl (Or.inl rfl))) (fun _ _ _ _ _ => pts_nil) (fun _ _ _ _ _ => (pe_ix (ixTK (K := K)) (pv 3) pe_int (fun _ _ => rfl))))
      (pss_cons (ps_if (pt_cmpR op_ne (pe_callB (call_lenK (K := K)) (by rfl) T.z_len (by decide +kernel) (pa_cons (pe_callB (cr_sortTx (P := P) (w := w) rfl hr.units) (by rfl) T.z_sorted (by decide +kernel) (pa_cons (pe_callTy (cr_setTx (P := P) (w := w) (K := K)) (by rfl) T.z_set (by decide +kernel) (pa_cons (pv 2) pa_nil)) pa_nil)) pa_nil)) (pe_callB (call_lenK (K := K)) (by rfl) T.z_len (by decide +kernel) (pa_cons (pv 2) pa_nil)) (nomark _)) (pss_one (ps_raise rfl (takes_of rfl rfl rfl rfl) (pmk_oex T.x_InvalidValues T.xi_InvalidValues T.xt_CoreError___init__ (ok_CoreError___init__ (K := K) T) (hr.mono (by decide)) T.b_CoreError___init__ .nil passL (by rfl) T.g_InvalidValues (pa_cons (pv 1) pa_nil)))) pss_nil)
      (pss_one (ps_fld (pv 0) (pe_callTy (cr_dictP (K := K)) (by rfl) T.z_dict (by decide +kernel) (pa_cons (pe_op op_cat (pe_lc (own := [("name", 4)]) (g := gName 4) (tt := tYes) rfl sc_Settings___init__.nd (pi_keysT (K := K) (w := w) (pe_glob (v := .ref a.t_BOUNDS) (by rfl) T.v_BOUNDS rfl)) (blkOk_by (N := ["self", "values", "names", "one", "name"]) (sc := defScope s_Settings___init__) (by decide +kernel)) (fun _ _ _ _ _ => (pg_name (i := 4) sc_Settings___init__.nd rfl (Or.inl rfl))) (fun _ _ _ _ _ => pts_nil) (fun _ _ _ _ _ => (pe_tup (pa_cons (pv 4) (pa_cons (pe_ix (ixTK (K := K)) (pe_ix (ixKD (K := K) (w := w)) (pe_glob (v := .ref a.t_BOUNDS) (by rfl) T.v_BOUNDS rfl) (pv 4) (fun _ _ => rfl)) pe_int (fun _ _ => rfl)) pa_nil))))) (pe_lc (own := [("one", 3)]) (g := gName 3) (tt := tYes) rfl sc_Settings___init__.nd (pi_list (pv 1)) (blkOk_by (N := ["self", "values", "names", "one", "name"]) (sc := defScope s_Settings___init__) (by decide +kernel)) (fun _ _ _ _ _ => (pg_name (i := 3) sc_Settings___init__.nd rfl (Or.inl rfl))) (fun _ _ _ _ _ => pts_nil) (fun _ _ _ _ _ => (pe_callTy (call_tupK (K := K)) (by rfl) T.z_tuple (by decide +kernel) (pa_cons (pv 3) pa_nil))))) pa_nil)) rfl))))), ?_⟩
    try simp only [cxOf_K]
    refine w_in (σ := [some _, some _, none, none, none]) rfl ?_
    refine Holds.go hH ?_
    unfold m_Settings___init__ at hm
    repeat (walk_at "go")
theorem ok_Settings___init____V_t (T : Txt w K mg a) : FnOk P w K mg base (L2.CX P w) 6 a.f_Settings___init__ a.d_Settings___init__ ["self", "values"] (sp_Settings___init____V_t K a) := by
  refine T.F_Settings___init__.okX sc_Settings___init__ (fun vs H Q E h => ?_) (fun cdv A outer s H vs Q E hr h => ?_)
  · obtain ⟨_, _, _, _, _, _, _, rfl, _⟩ := h
    rfl
  · obtain ⟨a_self, dx_self, values, v_values, F, k, xr, rfl, hH, hm, q, qx⟩ := h
    refine ⟨_, (pss_cons (ps_if (PW.pt (pw_or (pt_not (pt_val (pe_call (ok_is_list (K := K) T) (hr.mono (by decide)) (by rfl) T.m_is_list T.F_is_list.kp T.b_is_list .nil passL (pa_cons (pv 1) pa_nil)))) (pw_or1 (pt_not (pt_val (pe_callB (cr_all rfl) (by rfl) T.z_all (by decide +kernel) (pa_cons (pe_lc (own := [("one", 3)]) (g := gName 3) (tt := tYes) rfl sc_Settings___init__.nd (pi_tup (pv 1)) (blkOk_by (N := ["self", "values", "names", "one", "name"]) (sc := defScope s_Settings___init__) (by decide +kernel)) (fun _ _ _ _ _ => (pg_name (i := 3) sc_Settings___init__.nd rfl (Or.inl rfl))) (fun _ _ _ _ _ => pts_nil) (fun _ _ _ _ _ => (pe_call (ok_is_told (K := K) T) (hr.mono (by decide)) (by rfl) T.m_is_told T.F_is_told.kp T.b_is_told .nil passL (pa_cons (pv 3) pa_nil)))) pa_nil))))))) (pss_one (ps_raise rfl (takes_of rfl rfl rfl rfl) (pmk_oex T.x_InvalidValues T.xi_InvalidValues T.xt_CoreError___init__ (ok_CoreError___init__ (K := K) T) (hr.mono (by decide)) T.b_CoreError___init__ .nil passL (by rfl) T.g_InvalidValues (pa_cons (pv 1) pa_nil)))) pss_nil)
      (pss_cons (ps_setLc (i := 2) (own := [("one", 3)]) (g := gName 3) (tt := tYes) rfl sc_Settings___init__.nd rfl rfl (sw_true rfl rfl rfl (by decide +kernel)) (pi_tup (pv 1)) (blkOk_by (N := ["self", "values", "names", "one", "name"]) (sc := defScope s_Settings___init__) (by decide +kernel)) (fun _ _ _ _ _ => (pg_name (i := 3) sc_Settings___init__.nd rfl (Or.inl rfl))) (fun _ _ _ _ _ => pts_nil) (fun _ _ _ _ _ => (pe_ix (ixTK (K := K)) (pv 3) pe_int (fun _ _ => rfl))))
      (pss_cons (ps_if (pt_cmpR op_ne (pe_callB (call_lenK (K := K)) (by rfl) T.z_len (by decide +kernel) (pa_cons (pe_callB (cr_sortTx (P := P) (w := w) rfl hr.units) (by rfl) T.z_sorted (by decide +kernel) (pa_cons (pe_callTy (cr_setTx (P := P) (w := w) (K := K)) (by rfl) T.z_set (by decide +kernel) (pa_cons (pv 2) pa_nil)) pa_nil)) pa_nil)) (pe_callB (call_lenK (K := K)) (by rfl) T.z_len (by decide +kernel) (pa_cons (pv 2) pa_nil)) (nomark _)) (pss_one (ps_raise rfl (takes_of rfl rfl rfl rfl) (pmk_oex T.x_InvalidValues T.xi_InvalidValues T.xt_CoreError___init__ (ok_CoreError___init__ (K := K) T) (hr.mono (by decide)) T.b_CoreError___init__ .nil passL (by rfl) T.g_InvalidValues (pa_cons (pv 1) pa_nil)))) pss_nil)
      (pss_one (ps_fld (pv 0) (pe_callTy (cr_dictP (K := K)) (by rfl) T.z_dict (by decide +kernel) (pa_cons (pe_op op_cat (pe_lc (own := [("name", 4)]) (g := gName 4) (tt := tYes) rfl sc_Settings___init__.nd (pi_keysT (K := K) (w := w) (pe_glob (v := .ref a.t_BOUNDS) (by rfl) T.v_BOUNDS rfl)) (blkOk_by (N := ["self", "values", "names", "one", "name"]) (sc := defScope s_Settings___init__) (by decide +kernel)) (fun _ _ _ _ _ => (pg_name (i := 4) sc_Settings___init__.nd rfl (Or.inl rfl))) (fun _ _ _ _ _ => pts_nil) (fun _ _ _ _ _ => (pe_tup (pa_cons (pv 4) (pa_cons (pe_ix (ixTK (K := K)) (pe_ix (ixKD (K := K) (w := w)) (pe_glob (v := .ref a.t_BOUNDS) (by rfl) T.v_BOUNDS rfl) (pv 4) (fun _ _ => rfl)) pe_int (fun _ _ => rfl)) pa_nil))))) (pe_lc (own := [("one", 3)]) (g := gName 3) (tt := tYes) rfl sc_Settings___init__.nd (pi_tup (pv 1)) (blkOk_by (N := ["self", "values", "names", "one", "name"]) (sc := defScope s_Settings___init__) (by decide +kernel)) (fun _ _ _ _ _ => (pg_name (i := 3) sc_Settings___init__.nd rfl (Or.inl rfl))) (fun _ _ _ _ _ => pts_nil) (fun _ _ _ _ _ => (pe_callTy (call_tupK (K := K)) (by rfl) T.z_tuple (by decide +kernel) (pa_cons (pv 3) pa_nil))))) pa_nil)) rfl))))), ?_⟩
    try simp only [cxOf_K]
    refine w_in (σ := [some _, some _, none, none, none]) rfl ?_
    refine Holds.go hH ?_
    unfold m_Settings___init____V_t at hm
    repeat (walk_at "go")
theorem ok_Settings_told (T : Txt w K mg a) : FnOk P w K mg base (L2.CX P w) 1 a.f_Settings_told a.d_Settings_told ["self"] (sp_Settings_told K a) := by
  refine T.F_Settings_told.okX sc_Settings_told (fun vs H Q E h => ?_) (fun cdv A outer s H vs Q E hr h => ?_)
  · obtain ⟨_, _, _, _, rfl, _⟩ := h
    rfl
  · obtain ⟨a_self, self, F, k, rfl, hH, hm, q⟩ := h
    refine ⟨_, (pss_one (ps_ret (pe_callB (cr_sortIt (K := K) rfl hr.units) (by rfl) T.z_sorted (by decide +kernel) (pa_cons (pe_bm0 PySem.F.plainAttrs_dict PySem.F.slot_dict_items PySem.F.type_dict_items mt_itemsK (pe_fld (pv 0) rfl)) pa_nil)))), ?_⟩
    try simp only [cxOf_K]
    refine w_in (σ := [some _]) rfl ?_
    refine Holds.go hH ?_
    unfold m_Settings_told at hm
    repeat (walk_at "go")
theorem ok__law_pot (T : Txt w K mg a) : FnOk P w K mg base (L2.CX P w) 1 a.f__law_pot a.d__law_pot ["_law_script", "_law_k"] (aPot K) := by
  refine T.F__law_pot.okX sc__law_pot (fun vs H Q E h => ?_) (fun cdv A outer s H vs Q E hr h => ?_)
  · obtain ⟨_, _, _, _, rfl, _⟩ := h
    rfl
  · obtain ⟨sa, ns, k, F, rfl, hH, hk0, hk1, q⟩ := h
    refine ⟨_, (pss_cons (ps_set (i := 2) sc__law_pot.nd rfl (Or.inl rfl) (pe_op op_add (pe_op op_mul pe_int (pv 1)) pe_int))
      (pss_cons (ps_if (pt_cmpR op_lt (pv 1) (pe_callB (call_lenK (K := K)) (by rfl) T.z_len (by decide +kernel) (pa_cons (pv 0) pa_nil)) (nomark _)) (pss_one (ps_set (i := 2) sc__law_pot.nd rfl (Or.inl rfl) (pe_callB call_abs (by rfl) T.z_abs (by decide +kernel) (pa_cons (pe_ix ix_list (pv 0) (pv 1) (fun _ _ => rfl)) pa_nil)))) pss_nil)
      (pss_one (ps_ret (pe_lst (pa_cons (pe_callB (call_max2 rfl) (by rfl) T.z_max (by decide +kernel) (pa_cons pe_int (pa_cons (pe_op op_sub (pv 2) (pe_op op_pow pe_int pe_int)) pa_nil))) (pa_cons (pe_op op_add (pe_op op_mod (pe_callTy call_int1 (by rfl) T.z_int (by decide +kernel) (pa_cons (pe_op op_add (pe_op op_mul (pe_op op_mod (pe_callTy call_int1 (by rfl) T.z_int (by decide +kernel) (pa_cons (pv 2) pa_nil)) pe_int) (pe_op op_add (pe_op op_mul pe_int (pv 1)) pe_int)) pe_int) pa_nil)) pe_int) pe_int) pa_nil))))))), ?_⟩
    try simp only [cxOf_K]
    refine w_in (σ := [some _, some _, none]) rfl ?_
    refine Holds.go hH ?_
    repeat (walk_at "st")
    refine eS (fun h => ?_) (fun h => ?_)
    · obtain ⟨n, _, e, _⟩ := atI_ints hk0 h
      repeat (walk_at "st")
      exact Ent.sub (Sub.pot ⟨by split <;> omega, by omega, by omega⟩) (q _)
    · repeat (walk_at "st")
      exact Ent.sub (Sub.pot ⟨by split <;> omega, by omega, by omega⟩) (q _)
theorem ok__law_draw (T : Txt w K mg a) : FnOk P w K mg base (L2.CX P w) 1 a.f__law_draw a.d__law_draw ["_law_pot_here", "_law_size"] aDraw := by
  refine T.F__law_draw.okX sc__law_draw (fun vs H Q E h => ?_) (fun cdv A outer s H vs Q E hr h => ?_)
  · obtain ⟨_, _, _, rfl, _⟩ := h
    rfl
  · obtain ⟨p, n, F, rfl, hH, hn, hn2, q⟩ := h
    refine ⟨_, (pss_cons (ps_if (pt_cmpR op_gt (pe_ix ix_list (pv 0) pe_int (fun _ _ => rfl)) pe_int (nomark _)) (pss_cons (ps_asg (pe_callB call_divK (by rfl) T.z_divmod (by decide +kernel) (pa_cons (pe_ix ix_list (pv 0) pe_int (fun _ _ => rfl)) (pa_cons (pv 1) pa_nil))) (pg_tup rfl (pgs_cons (pg_sub (pv 0) pe_int set_list) (pgs_cons (pg_name (i := 2) sc__law_draw.nd rfl (Or.inl rfl)) pgs_nil))))
      (pss_one (ps_ret (pv 2)))) pss_nil)
      (pss_cons (ps_asg (pe_op op_mod (pe_callTy call_int1 (by rfl) T.z_int (by decide +kernel) (pa_cons (pe_op op_add (pe_op op_mul (pe_ix ix_list (pv 0) pe_int (fun _ _ => rfl)) pe_int) pe_int) pa_nil)) pe_int) (pg_sub (pv 0) pe_int set_list))
      (pss_one (ps_ret (pe_op op_mod (pe_callTy call_int1 (by rfl) T.z_int (by decide +kernel) (pa_cons (pe_op op_fdiv (pe_op op_mod (pe_callTy call_int1 (by rfl) T.z_int (by decide +kernel) (pa_cons (pe_op op_mul (pe_ix ix_list (pv 0) pe_int (fun _ _ => rfl)) (pe_ix ix_list (pv 0) pe_int (fun _ _ => rfl))) pa_nil)) pe_int) pe_int) pa_nil)) (pv 1)))))), ?_⟩
    try simp only [cxOf_K]
    refine w_in (σ := [some _, some _, none]) rfl ?_
    refine Holds.go hH ?_
    refine Ent.pot fun x y hx hy hy2 => ?_
    repeat (walk_at "st")
    refine eS (fun h => ?_) (fun h => ?_)
    · repeat (walk_at "st")
      refine Ent.sub ?_ (q _ (Int.emod_nonneg _ (by omega)) (Int.emod_lt_of_pos _ hn))
      exact Sub.trans (Sub.pot ⟨Int.ediv_nonneg hx (by omega), hy, hy2⟩) (Sub.cons (Sub.drop Sub.refl))
    · repeat (walk_at "st")
      refine Ent.sub ?_ (q _ (Int.emod_nonneg _ (by omega)) (Int.emod_lt_of_pos _ hn))
      exact Sub.pot ⟨hx, by omega, by omega⟩
theorem ok__law_pick (T : Txt w K mg a) : FnOk P w K mg base (L2.CX P w) 2 a.f__law_pick a.d__law_pick ["_law_pot_here", "_law_some"] (aPick K) := by
  refine T.F__law_pick.okX sc__law_pick (fun vs H Q E h => ?_) (fun cdv A outer s H vs Q E hr h => ?_)
  · obtain ⟨_, _, _, _, _, rfl, _⟩ := h
    rfl
  · obtain ⟨p, s, n, F, G, rfl, hH, h0, h1, hk, q⟩ := h
    refine ⟨_, (pss_one (ps_ret (pe_ix ix_list (pv 1) (pe_call (ok__law_draw (K := K) T) (hr.mono (by decide)) (by rfl) T.m__law_draw T.F__law_draw.kp T.b__law_draw .nil passL (pa_cons (pv 0) (pa_cons (pe_callB (call_lenK (K := K)) (by rfl) T.z_len (by decide +kernel) (pa_cons (pv 1) pa_nil)) pa_nil))) (fun _ _ => rfl)))), ?_⟩
    try simp only [cxOf_K]
    refine w_in (σ := [some _, some _]) rfl ?_
    refine Holds.go hH ?_
    repeat (walk_at "st")
    refine fun H k => ?_
    obtain ⟨us, hl, hs, _⟩ := hk H k
    refine ⟨s, us, rfl, .inl hs, ?_⟩
    dsimp only
    refine (fun (e : Ent (PotA p :: F) fun H => tNil [some (.ref p), some (.ref s)] H fun xs H2 => aDraw (.ref p :: V.int us.length :: xs) H2 (fun y H2 => rIxL K (.ref s) y H2 Q) E0) => e H k) ?_
    repeat (walk_at "st")
    refine e_draw take_here (by omega) (by omega) fun d d0 d1 => ?_
    refine fun H k => ?_
    obtain ⟨us, hl, hs, hg⟩ := hk H k
    obtain ⟨v, hv, e, e2⟩ := atI_mem (xs := us) d0 (by omega)
    exact ⟨s, us, d, v, rfl, rfl, hs, e, q d.toNat v (by omega) H (hg _ _ e2)⟩
theorem ok__law_table (T : Txt w K mg a) : FnOk P w K mg base (L2.CX P w) 1 a.f__law_table a.d__law_table [] (sp__law_table K a) := by
  refine T.F__law_table.okX sc__law_table (fun vs H Q E h => ?_) (fun cdv A outer s H vs Q E hr h => ?_)
  · obtain ⟨_, _, rfl, _⟩ := h
    rfl
  · obtain ⟨F, k, rfl, hH, hm, q⟩ := h
    refine ⟨_, (pss_cons (ps_set (i := 0) sc__law_table.nd rfl (Or.inl rfl) (pe_lst (pa_cons (pe_tup (pa_cons pe_str (pa_cons pe_int (pa_cons pe_int (pa_cons pe_int pa_nil))))) (pa_cons (pe_tup (pa_cons pe_str (pa_cons pe_int (pa_cons pe_int (pa_cons pe_int pa_nil))))) (pa_cons (pe_tup (pa_cons pe_str (pa_cons pe_int (pa_cons pe_int (pa_cons pe_int pa_nil))))) (pa_cons (pe_tup (pa_cons pe_str (pa_cons pe_int (pa_cons pe_int (pa_cons pe_int pa_nil))))) pa_nil))))))
      (pss_cons (ps_set (i := 0) sc__law_table.nd rfl (Or.inl rfl) (pe_op op_cat (pv 0) (pe_lst (pa_cons (pe_tup (pa_cons pe_str (pa_cons pe_int (pa_cons pe_int (pa_cons pe_int pa_nil))))) (pa_cons (pe_tup (pa_cons pe_str (pa_cons pe_int (pa_cons pe_int (pa_cons pe_int pa_nil))))) (pa_cons (pe_tup (pa_cons pe_str (pa_cons pe_int (pa_cons pe_int (pa_cons pe_int pa_nil))))) (pa_cons (pe_tup (pa_cons pe_str (pa_cons pe_int (pa_cons pe_int (pa_cons pe_int pa_nil))))) pa_nil)))))))
      (pss_cons (ps_set (i := 0) sc__law_table.nd rfl (Or.inl rfl) (pe_op op_cat (pv 0) (pe_lst (pa_cons (pe_tup (pa_cons pe_str (pa_cons pe_int (pa_cons pe_int (pa_cons pe_int pa_nil))))) (pa_cons (pe_tup (pa_cons pe_str (pa_cons pe_int (pa_cons pe_int (pa_cons pe_int pa_nil))))) (pa_cons (pe_tup (pa_cons pe_str (pa_cons pe_int (pa_cons pe_int (pa_cons pe_int pa_nil))))) (pa_cons (pe_tup (pa_cons pe_str (pa_cons pe_int (pa_cons pe_int (pa_cons pe_int pa_nil))))) pa_nil)))))))
      (pss_cons (ps_set (i := 0) sc__law_table.nd rfl (Or.inl rfl) (pe_op op_cat (pv 0) (pe_lst (pa_cons (pe_tup (pa_cons pe_str (pa_cons pe_int (pa_cons pe_int (pa_cons pe_int pa_nil))))) (pa_cons (pe_tup (pa_cons pe_str (pa_cons pe_int (pa_cons pe_int (pa_cons pe_int pa_nil))))) (pa_cons (pe_tup (pa_cons pe_str (pa_cons pe_int (pa_cons pe_int (pa_cons pe_int pa_nil))))) (pa_cons (pe_tup (pa_cons pe_str (pa_cons pe_int (pa_cons pe_int (pa_cons pe_int pa_nil))))) pa_nil)))))))
      (pss_cons (ps_set (i := 0) sc__law_table.nd rfl (Or.inl rfl) (pe_op op_cat (pv 0) (pe_lst (pa_cons (pe_tup (pa_cons pe_str (pa_cons pe_int (pa_cons pe_int (pa_cons pe_int pa_nil))))) (pa_cons (pe_tup (pa_cons pe_str (pa_cons pe_int (pa_cons pe_int (pa_cons pe_int pa_nil))))) (pa_cons (pe_tup (pa_cons pe_str (pa_cons pe_int (pa_cons pe_int (pa_cons pe_int pa_nil))))) (pa_cons (pe_tup (pa_cons pe_str (pa_cons pe_int (pa_cons pe_int (pa_cons pe_int pa_nil))))) pa_nil)))))))
      (pss_one (ps_ret (pe_op op_cat (pv 0) (pe_lst (pa_cons (pe_tup (pa_cons pe_str (pa_cons pe_int (pa_cons pe_int (pa_cons pe_int pa_nil))))) (pa_cons (pe_tup (pa_cons pe_str (pa_cons pe_int (pa_cons pe_int (pa_cons pe_int pa_nil))))) (pa_cons (pe_tup (pa_cons pe_str (pa_cons pe_int (pa_cons pe_int (pa_cons pe_int pa_nil))))) (pa_cons (pe_tup (pa_cons pe_str (pa_cons pe_int (pa_cons pe_int (pa_cons pe_int pa_nil))))) pa_nil))))))))))))), ?_⟩
    try simp only [cxOf_K]
    refine w_in (σ := [none]) rfl ?_
    refine Holds.go hH ?_
    unfold m__law_table at hm
    repeat (walk_at "go")
theorem ok__law_is_let (T : Txt w K mg a) : FnOk P w K mg base (L2.CX P w) 1 a.f__law_is_let a.d__law_is_let ["_law_name", "_law_least", "_law_most", "_law_number"] (sp__law_is_let K a) := by
  refine T.F__law_is_let.okX sc__law_is_let (fun vs H Q E h => ?_) (fun cdv A outer s H vs Q E hr h => ?_)
  · obtain ⟨_, _, _, _, _, _, rfl, _⟩ := h
    rfl
  · obtain ⟨name, least, most, number, F, k, rfl, hH, hm, q⟩ := h
    refine ⟨_, (pss_cons (ps_if (pt_cmpR op_eq (pv 0) pe_str (nomark _)) (pss_one (ps_ret (pe_cmpR op_in_seq (pv 3) (pe_lst (pa_cons pe_int (pa_cons pe_int (pa_cons pe_int (pa_cons pe_int (pa_cons pe_int pa_nil)))))) (by rfl)))) pss_nil)
      (pss_one (ps_ret (pe_chain op_le op_le (pv 1) (pv 3) (pv 2))))), ?_⟩
    try simp only [cxOf_K]
    refine w_in (σ := [some _, some _, some _, some _]) rfl ?_
    refine Holds.go hH ?_
    unfold m__law_is_let at hm
    repeat (walk_at "go")
theorem ok__law_refused (T : Txt w K mg a) : FnOk P w K mg base (L2.CX P w) 8 a.f__law_refused a.d__law_refused ["_law_values_here"] (sp__law_refused K a) := by
  refine T.F__law_refused.okX sc__law_refused (fun vs H Q E h => ?_) (fun cdv A outer s H vs Q E hr h => ?_)
  · obtain ⟨_, _, _, _, rfl, _⟩ := h
    rfl
  · obtain ⟨a_values_here, values_here, F, k, rfl, hH, hm, q⟩ := h
    refine ⟨_, (pss_cons (ps_set (i := 1) sc__law_refused.nd rfl (Or.inl rfl) pe_bl)
      (Evl.pss_cut (ps_try_as (i := 2) rfl rfl sc__law_refused.nd rfl rfl ⟨rfl, by decide, .inl T.g_InvalidValues⟩ takes0 (fun W pn xe tk _ => (pss_one (ps_expr (pe_makeS T.k_Settings (ok_Settings___init__ (K := K) T) (hr.mono (by decide)) (by rfl) T.g_Settings T.b_Settings___init__ (fun σ => passAt tk σ) (pa_cons (pv 0) pa_nil))))) (fun a_ oe cls d pn hz hf => (pss_one (ps_set (i := 1) sc__law_refused.nd rfl (Or.inl rfl) (pe_cmpR (op_eqC (ctL (ctE (kTup (kC (kSt (K := K)) (kC1 (kI (K := K))))))) hr.units) (pe_xf T.xf_InvalidValues T.xn_InvalidValues_value hz hf (pv 2)) (pv 0) (nomark _))))))
      (pss_one (ps_ret (pv 1))))), ?_⟩
    try simp only [cxOf_K]
    refine w_in (σ := [some _, none, none]) rfl ?_
    refine Holds.go hH ?_
    unfold m__law_refused at hm
    repeat (walk_at "gst")
    refine' c_cut (M := Bool) (B := Unit) (B0 := Unit) hm (fun b => []) (fun b => []) (fun m b => [none, some (some (.bl m))]) (fun m b => []) () ?zh1 ?zs1 ?zq1 ?zd1
    case zh1 =>
      (try dsimp only); rfl
    case zs1 =>
      walk_at "subR"
    case zq1 =>
      intro jp hm
      walk_at "norm"
      repeat (walk_at "go")
    case zd1 =>
      intro m b hm
      walk_at "norm"
      repeat (walk_at "go")
theorem ok__law_mixed (T : Txt w K mg a) : FnOk P w K mg base (L2.CX P w) 2 a.f__law_mixed a.d__law_mixed ["_law_pot_here", "_law_some"] (sp__law_mixed K a) := by
  refine T.F__law_mixed.okX sc__law_mixed (fun vs H Q E h => ?_) (fun cdv A outer s H vs Q E hr h => ?_)
  · obtain ⟨_, _, _, _, _, rfl, _⟩ := h
    rfl
  · obtain ⟨a_pot_here, a_some_, some_, F, k, rfl, hH, hm, q⟩ := h
    refine ⟨_, (pss_cons (ps_par (i := 2) (j := 3) rfl sc__law_mixed.nd rfl rfl (by decide) rfl rfl (pa_cons (pe_callTy (call_listK (K := K)) (by rfl) T.z_list (by decide +kernel) (pa_cons (pv 1) pa_nil)) (pa_cons (pe_lst pa_nil) pa_nil)) (by rfl))
      (pss_cons (ps_for (passes_of rfl) rfl (pi_range1 (by rfl) T.z_range (pa_cons (pe_callB (call_lenK (K := K)) (by rfl) T.z_len (by decide +kernel) (pa_cons (pv 2) pa_nil)) pa_nil)) (pg_name (i := 4) sc__law_mixed.nd rfl (Or.inl rfl))
      (pss_one (ps_expr (pe_bm PySem.F.plainAttrs_list PySem.F.slot_list_append PySem.F.type_list_append mt_append (pv 3) (pa_cons (pe_bm PySem.F.plainAttrs_list PySem.F.slot_list_pop PySem.F.type_list_pop mt_popAt (pv 2) (pa_cons (pe_call (ok__law_draw (K := K) T) (hr.mono (by decide)) (by rfl) T.m__law_draw T.F__law_draw.kp T.b__law_draw .nil passL (pa_cons (pv 0) (pa_cons (pe_callB (call_lenK (K := K)) (by rfl) T.z_len (by decide +kernel) (pa_cons (pv 2) pa_nil)) pa_nil))) pa_nil)) pa_nil)))))
      (pss_one (ps_ret (pv 3))))), ?_⟩
    try simp only [cxOf_K]
    refine w_in (σ := [some _, some _, none, none, none]) rfl ?_
    refine Holds.go hH ?_
    unfold m__law_mixed at hm
    repeat (walk_at "gst")
    repeat (walk_at "fold1")
    refine' c_forR (M := (List (Str × Int)) × (List (Str × Int))) (B := Addr × Addr × Option V) hm (fun m b => [none, none, some (some (.ref b.1)), some (some (.ref b.2.1)), some (b.2.2)]) (fun m b => [ls (kTup (kC (kSt (K := K)) (kC1 (kI (K := K))))) b.1 m.1, ls (kTup (kC (kSt (K := K)) (kC1 (kI (K := K))))) b.2.1 m.2]) (_, _, _) ?zh2 ?zs2 ?zq2 ?zd2
    case zh2 =>
      (try dsimp only); rfl
    case zs2 =>
      walk_at "subR"
    case zq2 =>
      intro hbk x m b nxt hm
      walk_at "norm"
      repeat (walk_at "go")
    case zd2 =>
      intro m b hm
      walk_at "norm"
      repeat (walk_at "go")
theorem ok__law_values (T : Txt w K mg a) : FnOk P w K mg base (L2.CX P w) 3 a.f__law_values a.d__law_values ["_law_pot_here"] (sp__law_values K a) := by
  refine T.F__law_values.okX sc__law_values (fun vs H Q E h => ?_) (fun cdv A outer s H vs Q E hr h => ?_)
  · obtain ⟨_, _, _, rfl, _⟩ := h
    rfl
  · obtain ⟨a_pot_here, F, k, rfl, hH, hm, q⟩ := h
    refine ⟨_, (pss_cons (ps_set (i := 1) sc__law_values.nd rfl (Or.inl rfl) (pe_lst pa_nil))
      (pss_cons (ps_for (passes_of rfl) rfl (pi_list (pe_call0 (ok__law_table (K := K) T) (hr.mono (by decide)) (by rfl) T.m__law_table T.F__law_table.kp T.b__law_table .nil passL)) (pg_tup rfl (pgs_cons (pg_name (i := 2) sc__law_values.nd rfl (Or.inl rfl)) (pgs_cons (pg_name (i := 3) sc__law_values.nd rfl (Or.inl rfl)) (pgs_cons (pg_name (i := 4) sc__law_values.nd rfl (Or.inl rfl)) (pgs_cons (pg_name (i := 5) sc__law_values.nd rfl (Or.inl rfl)) pgs_nil)))))
      (pss_one (ps_if (pt_cmpR op_eq (pe_call (ok__law_draw (K := K) T) (hr.mono (by decide)) (by rfl) T.m__law_draw T.F__law_draw.kp T.b__law_draw .nil passL (pa_cons (pv 0) (pa_cons pe_int pa_nil))) pe_int (nomark _)) (pss_cons (ps_set (i := 6) sc__law_values.nd rfl (Or.inl rfl) (pe_call (ok__law_pick (K := K) T) (hr.mono (by decide)) (by rfl) T.m__law_pick T.F__law_pick.kp T.b__law_pick .nil passL (pa_cons (pv 0) (pa_cons (pe_lst (pa_cons (pv 3) (pa_cons (pv 4) (pa_cons (pv 5) (pa_cons (pe_op op_add (pv 3) (pe_call (ok__law_draw (K := K) T) (hr.mono (by decide)) (by rfl) T.m__law_draw T.F__law_draw.kp T.b__law_draw .nil passL (pa_cons (pv 0) (pa_cons (pe_op op_add (pe_op op_sub (pv 4) (pv 3)) pe_int) pa_nil)))) pa_nil))))) pa_nil))))
      (pss_one (ps_expr (pe_bm PySem.F.plainAttrs_list PySem.F.slot_list_append PySem.F.type_list_append mt_append (pv 1) (pa_cons (pe_tup (pa_cons (pv 2) (pa_cons (pe_cut (pe_ifExp (pt_val (pe_call (ok__law_is_let (K := K) T) (hr.mono (by decide)) (by rfl) T.m__law_is_let T.F__law_is_let.kp T.b__law_is_let .nil passL (pa_cons (pv 2) (pa_cons (pv 3) (pa_cons (pv 4) (pa_cons (pv 6) pa_nil)))))) (pv 6) (pv 5))) pa_nil))) pa_nil))))) pss_nil)))
      (pss_one (ps_ret (pv 1))))), ?_⟩
    try simp only [cxOf_K]
    refine w_in (σ := [some _, none, none, none, none, none, none]) rfl ?_
    refine Holds.go hH ?_
    unfold m__law_values at hm
    repeat (walk_at "gst")
    repeat (walk_at "fold1")
    refine' c_forLs (M := (List (Str × Int))) (B := Addr × Option V × Option V × Option V × Option V × Option V) hm (fun m b => [none, some (some (.ref b.1)), some (b.2.1), some (b.2.2.1), some (b.2.2.2.1), some (b.2.2.2.2.1), some (b.2.2.2.2.2)]) (fun m b => [ls (kTup (kC (kSt (K := K)) (kC1 (kI (K := K))))) b.1 m]) (_, _, _, _, _, _) ?zh3 ?zs3 ?zt3 ?zq3 ?zd3
    case zh3 =>
      (try dsimp only); rfl
    case zs3 =>
      walk_at "subR"
    case zt3 =>
      walk_at "fr"
    case zq3 =>
      intro hbk x m b nxt hm
      walk_at "norm"
      walk_at "nv"
      repeat (walk_at "go")
    case zd3 =>
      intro m b hm
      walk_at "norm"
      repeat (walk_at "go")
theorem ok__law_due (T : Txt w K mg a) : FnOk P w K mg base (L2.CX P w) 2 a.f__law_due a.d__law_due ["_law_values_here"] (sp__law_due K a) := by
  refine T.F__law_due.okX sc__law_due (fun vs H Q E h => ?_) (fun cdv A outer s H vs Q E hr h => ?_)
  · obtain ⟨_, _, _, _, rfl, _⟩ := h
    rfl
  · obtain ⟨a_values_here, values_here, F, k, rfl, hH, hm, q⟩ := h
    refine ⟨_, (pss_cons (ps_set (i := 1) sc__law_due.nd rfl (Or.inr rfl) (pe_callTy (cr_dictP (K := K)) (by rfl) T.z_dict (by decide +kernel) (pa_cons (pv 0) pa_nil)))
      (pss_one (ps_ret (pe_callB (cr_sortD (kSI (K := K)) hr.units) (by rfl) T.z_sorted (by decide +kernel) (pa_cons (pe_lc (own := [("_law_name", 2), ("_law_least", 3), ("_law_most", 4), ("_law_plain", 5)]) (g := (gTup K 4 (gCons (gName 2) (gCons (gName 3) (gCons (gName 4) (gCons (gName 5) gNil)))))) (tt := tYes) rfl sc__law_due.nd (pi_list (pe_call0 (ok__law_table (K := K) T) (hr.mono (by decide)) (by rfl) T.m__law_table T.F__law_table.kp T.b__law_table .nil passL)) (blkOk_by (N := ["_law_values_here", "_law_told", "_law_name", "_law_least", "_law_most", "_law_plain"]) (sc := defScope s__law_due) (by decide +kernel)) (fun _ _ _ _ _ => by exact (pg_tup rfl (pgs_cons (pg_name (i := 2) sc__law_due.nd rfl (Or.inl rfl)) (pgs_cons (pg_name (i := 3) sc__law_due.nd rfl (Or.inl rfl)) (pgs_cons (pg_name (i := 4) sc__law_due.nd rfl (Or.inl rfl)) (pgs_cons (pg_name (i := 5) sc__law_due.nd rfl (Or.inl rfl)) pgs_nil)))))) (fun _ _ _ _ _ => pts_nil) (fun _ _ _ _ _ => (pe_tup (pa_cons (pv 2) (pa_cons (pe_dget2 hr.units1 (pv 1) (pv 2) (pv 5) ⟨rfl, rfl, rfl, rfl⟩) pa_nil))))) pa_nil))))), ?_⟩
    try simp only [cxOf_K]
    refine w_in (σ := [some _, none, none, none, none, none]) rfl ?_
    refine Holds.go hH ?_
    unfold m__law_due at hm
    repeat (walk_at "go")
theorem ok_law (T : Txt w K mg a) : FnOk P w K mg base (L2.CX P w) 11 a.f_law a.d_law ["_law_script"] (sp_law K) := by
  refine T.F_law.okX sc_law (fun vs H Q E h => ?_) (fun cdv A outer s H vs Q E hr h => ?_)
  · obtain ⟨_, _, rfl, _⟩ := h
    rfl
  · obtain ⟨a_script, script, rfl, hs, hl, q⟩ := h
    have hm := law_ok script hl
    have hH := holds_sq hs
    refine ⟨_, (pss_cons (ps_set (i := 1) sc_law.nd rfl (Or.inl rfl) (pe_call (ok__law_pot (K := K) T) (hr.mono (by decide)) (by rfl) T.m__law_pot T.F__law_pot.kp T.b__law_pot .nil passL (pa_cons (pv 0) (pa_cons pe_int pa_nil))))
      (pss_cons (ps_set (i := 2) sc_law.nd rfl (Or.inl rfl) (pe_call (ok__law_values (K := K) T) (hr.mono (by decide)) (by rfl) T.m__law_values T.F__law_values.kp T.b__law_values .nil passL (pa_cons (pv 1) pa_nil)))
      (pss_cons (ps_set (i := 3) sc_law.nd rfl (Or.inl rfl) (pe_call (ok__law_mixed (K := K) T) (hr.mono (by decide)) (by rfl) T.m__law_mixed T.F__law_mixed.kp T.b__law_mixed .nil passL (pa_cons (pv 1) (pa_cons (pv 2) pa_nil))))
      (pss_cons (ps_set (i := 4) sc_law.nd rfl (Or.inr rfl) (pe_make T.k_Settings (ok_Settings___init__ (K := K) T) (hr.mono (by decide)) (by rfl) T.g_Settings T.b_Settings___init__ .nil passL (pa_cons (pv 3) pa_nil)))
      (pss_cons (ps_expr (pe_bm PySem.F.plainAttrs_list PySem.F.slot_list_append PySem.F.type_list_append mt_append (pv 3) (pa_cons (pe_tup (pa_cons pe_str (pa_cons pe_int pa_nil))) pa_nil)))
      (pss_cons (ps_set (i := 5) sc_law.nd rfl (Or.inl rfl) (pe_call (ok__law_due (K := K) T) (hr.mono (by decide)) (by rfl) T.m__law_due T.F__law_due.kp T.b__law_due .nil passL (pa_cons (pv 2) pa_nil)))
      (pss_cons (ps_if (pt_cut (PW.pt (pw_or (pt_cmpR (op_neC (ctL (ctE (kTup (kC (kSt (K := K)) (kC1 (kI (K := K))))))) hr.units) (pe_meth0 (pv 4) T.c_Settings T.M_Settings_told (ok_Settings_told (K := K) T) (hr.mono (by decide)) T.b_Settings_told .nil passL) (pv 5) (nomark _)) (pw_or1 (pt_cmpR (op_neC (ctL (ctE (kTup (kC (kSt (K := K)) (kC1 (kI (K := K))))))) hr.units) (pe_lc (own := [("_law_name", 6), ("_law_number", 10)]) (g := (gTup K 2 (gCons (gName 6) (gCons (gName 10) gNil)))) (tt := tYes) rfl sc_law.nd (pi_list (pv 5)) (blkOk_by (N := ["_law_script", "_law_pot_here", "_law_values_here", "_law_handed", "_law_one", "_law_due_here", "_law_name", "_law_least", "_law_most", "_law_plain", "_law_number", "_law_rows", "_law_row"]) (sc := defScope s_law) (by decide +kernel)) (fun _ _ _ _ _ => by exact (pg_tup rfl (pgs_cons (pg_name (i := 6) sc_law.nd rfl (Or.inl rfl)) (pgs_cons (pg_name (i := 10) sc_law.nd rfl (Or.inl rfl)) pgs_nil)))) (fun _ _ _ _ _ => pts_nil) (fun _ _ _ _ _ => (pe_tup (pa_cons (pv 6) (pa_cons (pe_meth (pv 4) T.c_Settings T.M_Settings_value (ok_Settings_value (K := K) T) (hr.mono (by decide)) T.b_Settings_value .nil passL (pa_cons (pv 6) pa_nil)) pa_nil))))) (pv 5) (nomark _)))))) (pss_one (ps_ret pe_bl)) pss_nil)
      (pss_cons (ps_expr (pe_bm PySem.F.plainAttrs_list PySem.F.slot_list_append PySem.F.type_list_append mt_append (pe_meth0 (pv 4) T.c_Settings T.M_Settings_told (ok_Settings_told (K := K) T) (hr.mono (by decide)) T.b_Settings_told .nil passL) (pa_cons pe_non pa_nil)))
      (pss_cons (ps_if (pt_cut (PW.pt (pw_or (pt_cmpR (op_neC (ctL (ctE (kTup (kC (kSt (K := K)) (kC1 (kI (K := K))))))) hr.units) (pe_meth0 (pv 4) T.c_Settings T.M_Settings_told (ok_Settings_told (K := K) T) (hr.mono (by decide)) T.b_Settings_told .nil passL) (pv 5) (nomark _)) (pw_or (pt_cmpR (op_ownNe (ok_Settings___eq__ (K := K) T) ⟨T.M_Settings___eq__.at_, T.M_Settings___eq__.fn⟩ T.ne_Settings (hr.mono (by decide)) T.b_Settings___eq__ passL) (pv 4) (pe_make T.k_Settings (ok_Settings___init____V_t (K := K) T) (hr.mono (by decide)) (by rfl) T.g_Settings T.b_Settings___init__ .nil passL (pa_cons (pe_callTy (call_tupK (K := K)) (by rfl) T.z_tuple (by decide +kernel) (pa_cons (pv 5) pa_nil)) pa_nil)) (nomark _)) (pw_or (pt_cmpR (op_own (ok_Settings___eq___Nlist (K := K) T) ⟨T.M_Settings___eq__.at_, T.M_Settings___eq__.fn⟩ (hr.mono (by decide)) T.b_Settings___eq__ passL) (pv 4) (pv 5) (nomark _)) (pw_or1 (pt_not (pt_cmpR (op_own (ok_Settings___eq__ (K := K) T) ⟨T.M_Settings___eq__.at_, T.M_Settings___eq__.fn⟩ (hr.mono (by decide)) T.b_Settings___eq__ passL) (pv 4) (pe_make T.k_Settings (ok_Settings___init__ (K := K) T) (hr.mono (by decide)) (by rfl) T.g_Settings T.b_Settings___init__ .nil passL (pa_cons (pe_revL (pv 2)) pa_nil)) (nomark _))))))))) (pss_one (ps_ret pe_bl)) pss_nil)
      (pss_cons (ps_asg (pe_call (ok__law_pick (K := K) T) (hr.mono (by decide)) (by rfl) T.m__law_pick T.F__law_pick.kp T.b__law_pick .nil passL (pa_cons (pv 1) (pa_cons (pe_call0 (ok__law_table (K := K) T) (hr.mono (by decide)) (by rfl) T.m__law_table T.F__law_table.kp T.b__law_table .nil passL) pa_nil))) (pg_tup rfl (pgs_cons (pg_name (i := 6) sc_law.nd rfl (Or.inr rfl)) (pgs_cons (pg_name (i := 7) sc_law.nd rfl (Or.inl rfl)) (pgs_cons (pg_name (i := 8) sc_law.nd rfl (Or.inl rfl)) (pgs_cons (pg_name (i := 9) sc_law.nd rfl (Or.inl rfl)) pgs_nil))))))
      (pss_cons (ps_for (passes_of rfl) rfl (pi_list (pe_lst (pa_cons (pe_op op_sub (pv 7) pe_int) (pa_cons (pv 7) (pa_cons (pv 8) (pa_cons (pe_op op_add (pv 8) pe_int) (pa_cons (pv 9) (pa_cons (pe_op op_add (pv 7) (pe_call (ok__law_draw (K := K) T) (hr.mono (by decide)) (by rfl) T.m__law_draw T.F__law_draw.kp T.b__law_draw .nil passL (pa_cons (pv 1) (pa_cons (pe_op op_add (pe_op op_sub (pv 8) (pv 7)) pe_int) pa_nil)))) pa_nil)))))))) (pg_name (i := 10) sc_law.nd rfl (Or.inl rfl))
      (pss_cons (ps_set (i := 11) sc_law.nd rfl (Or.inl rfl) (pe_op op_cat (pe_lc (own := [("_law_row", 12)]) (g := gName 12) rfl sc_law.nd (pi_list (pv 2)) (blkOk_by (N := ["_law_script", "_law_pot_here", "_law_values_here", "_law_handed", "_law_one", "_law_due_here", "_law_name", "_law_least", "_law_most", "_law_plain", "_law_number", "_law_rows", "_law_row"]) (sc := defScope s_law) (by decide +kernel)) (fun _ _ _ _ _ => (pg_name (i := 12) sc_law.nd rfl (Or.inl rfl))) (fun _ _ _ _ _ => (pts_one (pt_cmpR op_ne (pe_ix (ixTK (K := K)) (pv 12) pe_int (fun _ _ => rfl)) (pv 6) (nomark _)))) (fun _ _ _ _ _ => (pv 12))) (pe_lst (pa_cons (pe_tup (pa_cons (pv 6) (pa_cons (pv 10) pa_nil))) pa_nil))))
      (pss_one (ps_if (pt_cut (PW.pt (pw_or (pt_cmpR op_lt (pv 10) pe_int (nomark _)) (pw_or1 (pt_not (pt_val (pe_call (ok__law_is_let (K := K) T) (hr.mono (by decide)) (by rfl) T.m__law_is_let T.F__law_is_let.kp T.b__law_is_let .nil passL (pa_cons (pv 6) (pa_cons (pv 7) (pa_cons (pv 8) (pa_cons (pv 10) pa_nil))))))))))) (pss_one (ps_if (pt_not (pt_val (pe_call (ok__law_refused (K := K) T) (hr.mono (by decide)) (by rfl) T.m__law_refused T.F__law_refused.kp T.b__law_refused .nil passL (pa_cons (pv 11) pa_nil)))) (pss_one (ps_ret pe_bl)) pss_nil)) (pss_one (ps_if (PW.pt (pw_or (pt_cmpR (op_neC (ctL (ctE (kTup (kC (kSt (K := K)) (kC1 (kI (K := K))))))) hr.units) (pe_meth0 (pe_make T.k_Settings (ok_Settings___init__ (K := K) T) (hr.mono (by decide)) (by rfl) T.g_Settings T.b_Settings___init__ .nil passL (pa_cons (pv 11) pa_nil)) T.c_Settings T.M_Settings_told (ok_Settings_told (K := K) T) (hr.mono (by decide)) T.b_Settings_told .nil passL) (pe_call (ok__law_due (K := K) T) (hr.mono (by decide)) (by rfl) T.m__law_due T.F__law_due.kp T.b__law_due .nil passL (pa_cons (pv 11) pa_nil)) (nomark _)) (pw_or1 (pt_cmpR op_ne (pe_cmpR (op_own (ok_Settings___eq__ (K := K) T) ⟨T.M_Settings___eq__.at_, T.M_Settings___eq__.fn⟩ (hr.mono (by decide)) T.b_Settings___eq__ passL) (pe_make T.k_Settings (ok_Settings___init__ (K := K) T) (hr.mono (by decide)) (by rfl) T.g_Settings T.b_Settings___init__ .nil passL (pa_cons (pv 11) pa_nil)) (pv 4) (nomark _)) (pe_cmpR (op_eqC (ctL (ctE (kTup (kC (kSt (K := K)) (kC1 (kI (K := K))))))) hr.units) (pe_call (ok__law_due (K := K) T) (hr.mono (by decide)) (by rfl) T.m__law_due T.F__law_due.kp T.b__law_due .nil passL (pa_cons (pv 11) pa_nil)) (pv 5) (nomark _)) (nomark _))))) (pss_one (ps_ret pe_bl)) pss_nil))))))
      (pss_one (ps_ret (pe_and (pe_cmpR (op_eqC (ctL (ctE (kTup (kC (kSt (K := K)) (kC1 (kI (K := K))))))) hr.units) (pe_meth0 (pe_make T.k_Settings (ok_Settings___init__ (K := K) T) (hr.mono (by decide)) (by rfl) T.g_Settings T.b_Settings___init__ .nil passL (pa_cons (pe_lst pa_nil) pa_nil)) T.c_Settings T.M_Settings_told (ok_Settings_told (K := K) T) (hr.mono (by decide)) T.b_Settings_told .nil passL) (pe_call (ok__law_due (K := K) T) (hr.mono (by decide)) (by rfl) T.m__law_due T.F__law_due.kp T.b__law_due .nil passL (pa_cons (pe_lst pa_nil) pa_nil)) (nomark _)) (pe_one (pe_cmpR op_eq (pe_call (ok__law_refused (K := K) T) (hr.mono (by decide)) (by rfl) T.m__law_refused T.F__law_refused.kp T.b__law_refused .nil passL (pa_cons (pe_op op_cat (pv 2) (pe_slice (slLK (K := K)) (pv 2) po_none (po_some pe_int))) pa_nil)) (pe_cmpR (op_neC (ctL (ctE (kTup (kC (kSt (K := K)) (kC1 (kI (K := K))))))) hr.units) (pv 2) (pe_lst pa_nil) (nomark _)) (nomark _))))))))))))))))), ?_⟩
    try simp only [cxOf_K]
    refine w_in (σ := [some _, none, none, none, none, none, none, none, none, none, none, none, none]) rfl ?_
    refine Holds.go hH ?_
    unfold m_law at hm
    repeat (walk_at "gst")
    walk_at "if"
    · repeat (walk_at "go")
    · repeat (walk_at "gst")
      walk_at "if"
      · repeat (walk_at "go")
      · repeat (walk_at "gst")
        repeat (walk_at "fold1")
        refine' c_forLs (M := Unit) (B := Option V × Option V) hm (fun m b => [none, none, none, none, none, none, none, none, none, none, some (b.1), some (b.2)]) (fun m b => []) (_, _) ?zh4 ?zs4 ?zt4 ?zq4 ?zd4
        case zh4 =>
          (try dsimp only); rfl
        case zs4 =>
          walk_at "subR"
        case zt4 =>
          walk_at "fr"
        case zq4 =>
          intro hbk x m b nxt hm
          walk_at "norm"
          walk_at "nv"
          repeat (walk_at "go")
        case zd4 =>
          intro m b hm
          walk_at "norm"
          repeat (walk_at "go")
end
theorem all_mk {l : PySem.W.OpenLaw} {w : World} {K : PySem.W.Frag} {h : Heap} {mg : Str → Option Value} {fa : Addr} (X : K.In h) (G : h.Ns mainGlobals mg) (hfa : mg "law" = some (.ref fa))
    {f_CoreError___init__ : Addr} {d_CoreError___init__ : FuncData} {f_is_integer : Addr} {d_is_integer : FuncData} {f_is_count : Addr} {d_is_count : FuncData} {f_is_list : Addr} {d_is_list : FuncData} {f_is_value : Addr} {d_is_value : FuncData} {f_is_told : Addr} {d_is_told : FuncData} {f_Settings___init__ : Addr} {d_Settings___init__ : FuncData} {f_Settings_value : Addr} {d_Settings_value : FuncData} {f_Settings_told : Addr} {d_Settings_told : FuncData} {f_Settings___eq__ : Addr} {d_Settings___eq__ : FuncData} {f__law_pot : Addr} {d__law_pot : FuncData} {f__law_draw : Addr} {d__law_draw : FuncData} {f__law_pick : Addr} {d__law_pick : FuncData} {f__law_table : Addr} {d__law_table : FuncData} {f__law_is_let : Addr} {d__law_is_let : FuncData} {f__law_refused : Addr} {d__law_refused : FuncData} {f__law_mixed : Addr} {d__law_mixed : FuncData} {f__law_values : Addr} {d__law_values : FuncData} {f__law_due : Addr} {d__law_due : FuncData} {f_law : Addr} {d_law : FuncData} {c_CoreError : Addr} {c_MissingError : Addr} {c_InvalidValues : Addr} {c_NoSuchName : Addr} {c_Settings : Addr} {t_BOUNDS : Addr} {t_LINE_SIZES : Addr}
    (a_CoreError : PySem.W.nsIn K mainGlobals "CoreError" = some (some (.ref c_CoreError)))
    (xc_CoreError : ∃ nm q N bs sn sub ab col dd k0 k1 k2 k3 k5, K.lookup c_CoreError = some (excClassObj nm q c_CoreError N bs [.type "ValueError", .type "Exception", .type "BaseException", .type "object"] true sn sub ab col dd k0 k1 k2 k3 k5 "ValueError.__new__"))
    (xs_CoreError : PySem.W.findIn K (.ref c_CoreError) "__setattr__" = some (some (.builtin "object.__setattr__")))
    (xb_CoreError : PySem.W.subIn K (.ref c_CoreError) (.type "BaseException") = some true)
    (xy_CoreError : PySem.W.typeIn K (.ref c_CoreError) = some (.type "type"))
    (xk_CoreError : PySem.W.keepIn K (.ref c_CoreError) = true)
    (xi_CoreError : PySem.W.findIn K (.ref c_CoreError) "__init__" = some (some (.ref f_CoreError___init__)))
    (xn_CoreError_value : PySem.W.findIn K (.ref c_CoreError) "value" = some none)
    (a_MissingError : PySem.W.nsIn K mainGlobals "MissingError" = some (some (.ref c_MissingError)))
    (a_InvalidValues : PySem.W.nsIn K mainGlobals "InvalidValues" = some (some (.ref c_InvalidValues)))
    (xc_InvalidValues : ∃ nm q N bs sn sub ab col dd k0 k1 k2 k3 k5, K.lookup c_InvalidValues = some (excClassObj nm q c_InvalidValues N bs [.ref c_CoreError, .type "ValueError", .type "Exception", .type "BaseException", .type "object"] true sn sub ab col dd k0 k1 k2 k3 k5 "ValueError.__new__"))
    (xs_InvalidValues : PySem.W.findIn K (.ref c_InvalidValues) "__setattr__" = some (some (.builtin "object.__setattr__")))
    (xb_InvalidValues : PySem.W.subIn K (.ref c_InvalidValues) (.type "BaseException") = some true)
    (xy_InvalidValues : PySem.W.typeIn K (.ref c_InvalidValues) = some (.type "type"))
    (xk_InvalidValues : PySem.W.keepIn K (.ref c_InvalidValues) = true)
    (xi_InvalidValues : PySem.W.findIn K (.ref c_InvalidValues) "__init__" = some (some (.ref f_CoreError___init__)))
    (xn_InvalidValues_value : PySem.W.findIn K (.ref c_InvalidValues) "value" = some none)
    (xga_InvalidValues : PySem.W.findIn K (.ref c_InvalidValues) "__getattribute__" = some (some (.builtin "BaseException.__getattribute__")))
    (xgg_InvalidValues : PySem.W.findIn K (.ref c_InvalidValues) "__getattr__" = some none)
    (xhd_InvalidValues : PySem.W.hasDictIn K c_InvalidValues = true)
    (xl_InvalidValues : PySem.W.isClsIn K c_InvalidValues = true)
    (xz_InvalidValues : PySem.W.subIn K (.ref c_InvalidValues) (.ref c_InvalidValues) = some true)
    (a_NoSuchName : PySem.W.nsIn K mainGlobals "NoSuchName" = some (some (.ref c_NoSuchName)))
    (a_Settings : PySem.W.nsIn K mainGlobals "Settings" = some (some (.ref c_Settings)))
    (pg_Settings : PySem.W.plainGet K c_Settings Str.empty = true)
    (hd_Settings : PySem.W.hasDictIn K c_Settings = true)
    (po_Settings : PySem.W.plainOver K c_Settings = true)
    (sa_Settings : PySem.W.findIn K (.ref c_Settings) "__setattr__" = some (some (.builtin "object.__setattr__")))
    (n_Settings_own_values : PySem.W.findIn K (.ref c_Settings) "own_values" = some none)
    (ia_Settings : PySem.W.findIn K (.ref c_Settings) "__class__" = some (some (.builtin "object.__class__")))
    (ib_Settings : PySem.W.specialIn K (.builtin "object.__class__") "__get__" = some (some (.builtin "getset_descriptor.__get__")))
    (ic_Settings : PySem.W.takesIn K (.builtin "object.__class__") = some true)
    (id_Settings : PySem.W.mroIn K c_Settings (.type "object") = some true)
    (nq_Settings : PySem.W.findIn K (.ref c_Settings) "__ne__" = some (some (.builtin "object.__ne__")))
    (nm_Settings : PySem.W.mroIn K c_Settings (.type "object") = some true)
    (nf_Settings_list : PySem.W.notFirst K c_Settings (.type "list") = true)
    (kv_Settings_list : PySem.W.isClsIn K c_Settings = true)
    (ky_Settings_list : PySem.W.typeIn K (.ref c_Settings) = some (.type "type"))
    (kz_Settings_list : PySem.W.subIn K (.type "list") (.ref c_Settings) = some false)
    (mk_Settings : PySem.W.makesIn K c_Settings = true)
    (mi_Settings : PySem.W.findIn K (.ref c_Settings) "__init__" = some (some (.ref f_Settings___init__)))
    (mf_Settings : PySem.W.isFn K (.ref f_Settings___init__) = true)
    (kc_Settings : PySem.W.keepIn K (.ref c_Settings) = true)
    (l_CoreError___init__ : ∃ oc od kV dc pm an cd ct sl, d_CoreError___init__ = PySem.W.fnOf "__init__" "CoreError.__init__" (defArgs s_CoreError___init__) (defBody s_CoreError___init__) (defScope s_CoreError___init__) .none kV dc pm an cd ct ∧ K.lookup f_CoreError___init__ = some ⟨oc, od, .func d_CoreError___init__, sl⟩ ∧ PySem.W.codeIn K cd "CoreError.__init__" = true)
    (kp_CoreError___init__ : PySem.W.keepIn K (.ref f_CoreError___init__) = true)
    (xt_CoreError___init__ : PySem.W.typeIn K (.ref f_CoreError___init__) = some (.type "function"))
    (a_is_integer : PySem.W.nsIn K mainGlobals "is_integer" = some (some (.ref f_is_integer)))
    (l_is_integer : ∃ oc od kV dc pm an cd ct sl, d_is_integer = PySem.W.fnOf "is_integer" "is_integer" (defArgs s_is_integer) (defBody s_is_integer) (defScope s_is_integer) .none kV dc pm an cd ct ∧ K.lookup f_is_integer = some ⟨oc, od, .func d_is_integer, sl⟩ ∧ PySem.W.codeIn K cd "is_integer" = true)
    (kp_is_integer : PySem.W.keepIn K (.ref f_is_integer) = true)
    (a_is_count : PySem.W.nsIn K mainGlobals "is_count" = some (some (.ref f_is_count)))
    (l_is_count : ∃ oc od kV dc pm an cd ct sl, d_is_count = PySem.W.fnOf "is_count" "is_count" (defArgs s_is_count) (defBody s_is_count) (defScope s_is_count) .none kV dc pm an cd ct ∧ K.lookup f_is_count = some ⟨oc, od, .func d_is_count, sl⟩ ∧ PySem.W.codeIn K cd "is_count" = true)
    (kp_is_count : PySem.W.keepIn K (.ref f_is_count) = true)
    (a_is_list : PySem.W.nsIn K mainGlobals "is_list" = some (some (.ref f_is_list)))
    (l_is_list : ∃ oc od kV dc pm an cd ct sl, d_is_list = PySem.W.fnOf "is_list" "is_list" (defArgs s_is_list) (defBody s_is_list) (defScope s_is_list) .none kV dc pm an cd ct ∧ K.lookup f_is_list = some ⟨oc, od, .func d_is_list, sl⟩ ∧ PySem.W.codeIn K cd "is_list" = true)
    (kp_is_list : PySem.W.keepIn K (.ref f_is_list) = true)
    (a_is_value : PySem.W.nsIn K mainGlobals "is_value" = some (some (.ref f_is_value)))
    (l_is_value : ∃ oc od kV dc pm an cd ct sl, d_is_value = PySem.W.fnOf "is_value" "is_value" (defArgs s_is_value) (defBody s_is_value) (defScope s_is_value) .none kV dc pm an cd ct ∧ K.lookup f_is_value = some ⟨oc, od, .func d_is_value, sl⟩ ∧ PySem.W.codeIn K cd "is_value" = true)
    (kp_is_value : PySem.W.keepIn K (.ref f_is_value) = true)
    (a_is_told : PySem.W.nsIn K mainGlobals "is_told" = some (some (.ref f_is_told)))
    (l_is_told : ∃ oc od kV dc pm an cd ct sl, d_is_told = PySem.W.fnOf "is_told" "is_told" (defArgs s_is_told) (defBody s_is_told) (defScope s_is_told) .none kV dc pm an cd ct ∧ K.lookup f_is_told = some ⟨oc, od, .func d_is_told, sl⟩ ∧ PySem.W.codeIn K cd "is_told" = true)
    (kp_is_told : PySem.W.keepIn K (.ref f_is_told) = true)
    (l_Settings___init__ : ∃ oc od kV dc pm an cd ct sl, d_Settings___init__ = PySem.W.fnOf "__init__" "Settings.__init__" (defArgs s_Settings___init__) (defBody s_Settings___init__) (defScope s_Settings___init__) .none kV dc pm an cd ct ∧ K.lookup f_Settings___init__ = some ⟨oc, od, .func d_Settings___init__, sl⟩ ∧ PySem.W.codeIn K cd "Settings.__init__" = true)
    (kp_Settings___init__ : PySem.W.keepIn K (.ref f_Settings___init__) = true)
    (l_Settings_value : ∃ oc od kV dc pm an cd ct sl, d_Settings_value = PySem.W.fnOf "value" "Settings.value" (defArgs s_Settings_value) (defBody s_Settings_value) (defScope s_Settings_value) .none kV dc pm an cd ct ∧ K.lookup f_Settings_value = some ⟨oc, od, .func d_Settings_value, sl⟩ ∧ PySem.W.codeIn K cd "Settings.value" = true)
    (kp_Settings_value : PySem.W.keepIn K (.ref f_Settings_value) = true)
    (ma_Settings_value : PySem.W.findIn K (.ref c_Settings) "value" = some (some (.ref f_Settings_value)))
    (mb_Settings_value : PySem.W.isFn K (.ref f_Settings_value) = true)
    (l_Settings_told : ∃ oc od kV dc pm an cd ct sl, d_Settings_told = PySem.W.fnOf "told" "Settings.told" (defArgs s_Settings_told) (defBody s_Settings_told) (defScope s_Settings_told) .none kV dc pm an cd ct ∧ K.lookup f_Settings_told = some ⟨oc, od, .func d_Settings_told, sl⟩ ∧ PySem.W.codeIn K cd "Settings.told" = true)
    (kp_Settings_told : PySem.W.keepIn K (.ref f_Settings_told) = true)
    (ma_Settings_told : PySem.W.findIn K (.ref c_Settings) "told" = some (some (.ref f_Settings_told)))
    (mb_Settings_told : PySem.W.isFn K (.ref f_Settings_told) = true)
    (l_Settings___eq__ : ∃ oc od kV dc pm an cd ct sl, d_Settings___eq__ = PySem.W.fnOf "__eq__" "Settings.__eq__" (defArgs s_Settings___eq__) (defBody s_Settings___eq__) (defScope s_Settings___eq__) .none kV dc pm an cd ct ∧ K.lookup f_Settings___eq__ = some ⟨oc, od, .func d_Settings___eq__, sl⟩ ∧ PySem.W.codeIn K cd "Settings.__eq__" = true)
    (kp_Settings___eq__ : PySem.W.keepIn K (.ref f_Settings___eq__) = true)
    (ma_Settings___eq__ : PySem.W.findIn K (.ref c_Settings) "__eq__" = some (some (.ref f_Settings___eq__)))
    (mb_Settings___eq__ : PySem.W.isFn K (.ref f_Settings___eq__) = true)
    (a__law_pot : PySem.W.nsIn K mainGlobals "_law_pot" = some (some (.ref f__law_pot)))
    (l__law_pot : ∃ oc od kV dc pm an cd ct sl, d__law_pot = PySem.W.fnOf "_law_pot" "_law_pot" (defArgs s__law_pot) (defBody s__law_pot) (defScope s__law_pot) .none kV dc pm an cd ct ∧ K.lookup f__law_pot = some ⟨oc, od, .func d__law_pot, sl⟩ ∧ PySem.W.codeIn K cd "_law_pot" = true)
    (kp__law_pot : PySem.W.keepIn K (.ref f__law_pot) = true)
    (a__law_draw : PySem.W.nsIn K mainGlobals "_law_draw" = some (some (.ref f__law_draw)))
    (l__law_draw : ∃ oc od kV dc pm an cd ct sl, d__law_draw = PySem.W.fnOf "_law_draw" "_law_draw" (defArgs s__law_draw) (defBody s__law_draw) (defScope s__law_draw) .none kV dc pm an cd ct ∧ K.lookup f__law_draw = some ⟨oc, od, .func d__law_draw, sl⟩ ∧ PySem.W.codeIn K cd "_law_draw" = true)
    (kp__law_draw : PySem.W.keepIn K (.ref f__law_draw) = true)
    (a__law_pick : PySem.W.nsIn K mainGlobals "_law_pick" = some (some (.ref f__law_pick)))
    (l__law_pick : ∃ oc od kV dc pm an cd ct sl, d__law_pick = PySem.W.fnOf "_law_pick" "_law_pick" (defArgs s__law_pick) (defBody s__law_pick) (defScope s__law_pick) .none kV dc pm an cd ct ∧ K.lookup f__law_pick = some ⟨oc, od, .func d__law_pick, sl⟩ ∧ PySem.W.codeIn K cd "_law_pick" = true)
    (kp__law_pick : PySem.W.keepIn K (.ref f__law_pick) = true)
    (a__law_table : PySem.W.nsIn K mainGlobals "_law_table" = some (some (.ref f__law_table)))
    (l__law_table : ∃ oc od kV dc pm an cd ct sl, d__law_table = PySem.W.fnOf "_law_table" "_law_table" (defArgs s__law_table) (defBody s__law_table) (defScope s__law_table) .none kV dc pm an cd ct ∧ K.lookup f__law_table = some ⟨oc, od, .func d__law_table, sl⟩ ∧ PySem.W.codeIn K cd "_law_table" = true)
    (kp__law_table : PySem.W.keepIn K (.ref f__law_table) = true)
    (a__law_is_let : PySem.W.nsIn K mainGlobals "_law_is_let" = some (some (.ref f__law_is_let)))
    (l__law_is_let : ∃ oc od kV dc pm an cd ct sl, d__law_is_let = PySem.W.fnOf "_law_is_let" "_law_is_let" (defArgs s__law_is_let) (defBody s__law_is_let) (defScope s__law_is_let) .none kV dc pm an cd ct ∧ K.lookup f__law_is_let = some ⟨oc, od, .func d__law_is_let, sl⟩ ∧ PySem.W.codeIn K cd "_law_is_let" = true)
    (kp__law_is_let : PySem.W.keepIn K (.ref f__law_is_let) = true)
    (a__law_refused : PySem.W.nsIn K mainGlobals "_law_refused" = some (some (.ref f__law_refused)))
    (l__law_refused : ∃ oc od kV dc pm an cd ct sl, d__law_refused = PySem.W.fnOf "_law_refused" "_law_refused" (defArgs s__law_refused) (defBody s__law_refused) (defScope s__law_refused) .none kV dc pm an cd ct ∧ K.lookup f__law_refused = some ⟨oc, od, .func d__law_refused, sl⟩ ∧ PySem.W.codeIn K cd "_law_refused" = true)
    (kp__law_refused : PySem.W.keepIn K (.ref f__law_refused) = true)
    (a__law_mixed : PySem.W.nsIn K mainGlobals "_law_mixed" = some (some (.ref f__law_mixed)))
    (l__law_mixed : ∃ oc od kV dc pm an cd ct sl, d__law_mixed = PySem.W.fnOf "_law_mixed" "_law_mixed" (defArgs s__law_mixed) (defBody s__law_mixed) (defScope s__law_mixed) .none kV dc pm an cd ct ∧ K.lookup f__law_mixed = some ⟨oc, od, .func d__law_mixed, sl⟩ ∧ PySem.W.codeIn K cd "_law_mixed" = true)
    (kp__law_mixed : PySem.W.keepIn K (.ref f__law_mixed) = true)
    (a__law_values : PySem.W.nsIn K mainGlobals "_law_values" = some (some (.ref f__law_values)))
    (l__law_values : ∃ oc od kV dc pm an cd ct sl, d__law_values = PySem.W.fnOf "_law_values" "_law_values" (defArgs s__law_values) (defBody s__law_values) (defScope s__law_values) .none kV dc pm an cd ct ∧ K.lookup f__law_values = some ⟨oc, od, .func d__law_values, sl⟩ ∧ PySem.W.codeIn K cd "_law_values" = true)
    (kp__law_values : PySem.W.keepIn K (.ref f__law_values) = true)
    (a__law_due : PySem.W.nsIn K mainGlobals "_law_due" = some (some (.ref f__law_due)))
    (l__law_due : ∃ oc od kV dc pm an cd ct sl, d__law_due = PySem.W.fnOf "_law_due" "_law_due" (defArgs s__law_due) (defBody s__law_due) (defScope s__law_due) .none kV dc pm an cd ct ∧ K.lookup f__law_due = some ⟨oc, od, .func d__law_due, sl⟩ ∧ PySem.W.codeIn K cd "_law_due" = true)
    (kp__law_due : PySem.W.keepIn K (.ref f__law_due) = true)
    (a_law : PySem.W.nsIn K mainGlobals "law" = some (some (.ref f_law)))
    (l_law : ∃ oc od kV dc pm an cd ct sl, d_law = PySem.W.fnOf "law" "law" (defArgs s_law) (defBody s_law) (defScope s_law) .none kV dc pm an cd ct ∧ K.lookup f_law = some ⟨oc, od, .func d_law, sl⟩ ∧ PySem.W.codeIn K cd "law" = true)
    (kp_law : PySem.W.keepIn K (.ref f_law) = true)
    (z_abs : PySem.W.nsIn K mainGlobals "abs" = some none)
    (z_all : PySem.W.nsIn K mainGlobals "all" = some none)
    (z_bool : PySem.W.nsIn K mainGlobals "bool" = some none)
    (z_dict : PySem.W.nsIn K mainGlobals "dict" = some none)
    (z_divmod : PySem.W.nsIn K mainGlobals "divmod" = some none)
    (z_int : PySem.W.nsIn K mainGlobals "int" = some none)
    (z_isinstance : PySem.W.nsIn K mainGlobals "isinstance" = some none)
    (z_len : PySem.W.nsIn K mainGlobals "len" = some none)
    (z_list : PySem.W.nsIn K mainGlobals "list" = some none)
    (z_max : PySem.W.nsIn K mainGlobals "max" = some none)
    (z_range : PySem.W.nsIn K mainGlobals "range" = some none)
    (z_set : PySem.W.nsIn K mainGlobals "set" = some none)
    (z_sorted : PySem.W.nsIn K mainGlobals "sorted" = some none)
    (z_str : PySem.W.nsIn K mainGlobals "str" = some none)
    (z_tuple : PySem.W.nsIn K mainGlobals "tuple" = some none)
    (v_BOUNDS : PySem.W.nsIn K mainGlobals "BOUNDS" = some (some (.ref t_BOUNDS)))
    (kl_BOUNDS : ∃ es n, KDict K w t_BOUNDS es n ∧ PairsQ K (fun v : Int × Int × Int => [V.int v.1, V.int v.2.1, V.int v.2.2]) es.toList [("fetch", ((1 : Int), (4 : Int), (2 : Int))), ("issue", ((1 : Int), (4 : Int), (2 : Int))), ("retire", ((1 : Int), (4 : Int), (2 : Int))), ("reorder", ((2 : Int), (32 : Int), (8 : Int))), ("stations", ((1 : Int), (16 : Int), (4 : Int))), ("loads", ((1 : Int), (8 : Int), (4 : Int))), ("stores", ((1 : Int), (8 : Int), (4 : Int))), ("physical", ((9 : Int), (48 : Int), (16 : Int))), ("queue", ((1 : Int), (8 : Int), (4 : Int))), ("line", ((1 : Int), (16 : Int), (4 : Int))), ("sets1", ((1 : Int), (8 : Int), (2 : Int))), ("ways1", ((1 : Int), (4 : Int), (1 : Int))), ("sets2", ((1 : Int), (16 : Int), (4 : Int))), ("ways2", ((1 : Int), (4 : Int), (2 : Int))), ("wait2", ((0 : Int), (9 : Int), (2 : Int))), ("waitm", ((0 : Int), (20 : Int), (6 : Int))), ("times", ((1 : Int), (8 : Int), (3 : Int))), ("over", ((1 : Int), (16 : Int), (6 : Int))), ("buffer", ((1 : Int), (16 : Int), (4 : Int))), ("targets", ((1 : Int), (16 : Int), (4 : Int))), ("counters", ((1 : Int), (32 : Int), (8 : Int))), ("returns", ((0 : Int), (8 : Int), (2 : Int))), ("whim", ((0 : Int), (4 : Int), (0 : Int))), ("twist", ((0 : Int), (1 : Int), (0 : Int)))])
    (v_LINE_SIZES : PySem.W.nsIn K mainGlobals "LINE_SIZES" = some (some (.ref t_LINE_SIZES)))
    (tl_LINE_SIZES : ∃ (o : Obj) (its : Array Value) (n : Nat), K.lookup t_LINE_SIZES = some o ∧ o.cls = .type "tuple" ∧ o.data = .seq its n ∧ its.size ≤ sizeLine ∧ Vals [.int 1, .int 2, .int 4, .int 8, .int 16] its.toList)
    : ∃ fd : FuncData, (∀ (s : Shared) (v : Value), BindsTo s fd ⟨[v], []⟩ [("_law_script", v)]) ∧ ∀ base : Heap, K.In base → base.Ns mainGlobals mg → FnOk l.prog w K mg base (L2.CX l.prog w) 11 fa fd ["_law_script"] (sp_law K) := by
  have T : Txt w K mg ⟨f_CoreError___init__, d_CoreError___init__, f_is_integer, d_is_integer, f_is_count, d_is_count, f_is_list, d_is_list, f_is_value, d_is_value, f_is_told, d_is_told, f_Settings___init__, d_Settings___init__, f_Settings_value, d_Settings_value, f_Settings_told, d_Settings_told, f_Settings___eq__, d_Settings___eq__, f__law_pot, d__law_pot, f__law_draw, d__law_draw, f__law_pick, d__law_pick, f__law_table, d__law_table, f__law_is_let, d__law_is_let, f__law_refused, d__law_refused, f__law_mixed, d__law_mixed, f__law_values, d__law_values, f__law_due, d__law_due, f_law, d_law, c_CoreError, c_MissingError, c_InvalidValues, c_NoSuchName, c_Settings, t_BOUNDS, t_LINE_SIZES⟩ := {
    g_CoreError := PySem.W.mg_of X G a_CoreError,
    x_CoreError := (by obtain ⟨nm, q, N, bs, sn, sub, ab, col, dd, k0, k1, k2, k3, k5, e⟩ := xc_CoreError; exact ⟨⟨nm, q, N, bs, _, sn, sub, ab, col, dd, k0, k1, k2, k3, k5, e, by simp [PySem.HandSPX.refsVE]⟩, xs_CoreError, xb_CoreError, xy_CoreError, xk_CoreError⟩),
    xi_CoreError := xi_CoreError,
    xn_CoreError_value := xn_CoreError_value,
    g_MissingError := PySem.W.mg_of X G a_MissingError,
    g_InvalidValues := PySem.W.mg_of X G a_InvalidValues,
    x_InvalidValues := (by obtain ⟨nm, q, N, bs, sn, sub, ab, col, dd, k0, k1, k2, k3, k5, e⟩ := xc_InvalidValues; exact ⟨⟨nm, q, N, bs, _, sn, sub, ab, col, dd, k0, k1, k2, k3, k5, e, by simp [PySem.HandSPX.refsVE]⟩, xs_InvalidValues, xb_InvalidValues, xy_InvalidValues, xk_InvalidValues⟩),
    xi_InvalidValues := xi_InvalidValues,
    xn_InvalidValues_value := xn_InvalidValues_value,
    xf_InvalidValues := ⟨xga_InvalidValues, xgg_InvalidValues, xb_InvalidValues, xhd_InvalidValues⟩,
    xe_InvalidValues := exm_self xb_InvalidValues xl_InvalidValues xy_InvalidValues xz_InvalidValues,
    g_NoSuchName := PySem.W.mg_of X G a_NoSuchName,
    g_Settings := PySem.W.mg_of X G a_Settings,
    c_Settings := ⟨pg_Settings, hd_Settings, po_Settings, sa_Settings⟩,
    n_Settings_own_values := n_Settings_own_values,
    i_Settings := ⟨ia_Settings, ib_Settings, ic_Settings, id_Settings⟩,
    is_Settings := (by simp [PySem.W.notFirst]),
    io_Settings := (by simp [PySem.W.kitOne]),
    ne_Settings := ⟨nq_Settings, nm_Settings⟩,
    nf_Settings_list := nf_Settings_list,
    ko_Settings_list := (kit_own kv_Settings_list ky_Settings_list kz_Settings_list),
    k_Settings := ⟨mk_Settings, mi_Settings, mf_Settings, kc_Settings⟩,
    F_CoreError___init__ := ⟨l_CoreError___init__, kp_CoreError___init__⟩,
    b_CoreError___init__ := (Fun.binds (st := s_CoreError___init__) ⟨l_CoreError___init__, kp_CoreError___init__⟩ fun _ _ _ _ _ _ us hl => match us, hl with | [_, _], _ => rfl),
    xt_CoreError___init__ := xt_CoreError___init__,
    m_is_integer := PySem.W.mg_of X G a_is_integer,
    F_is_integer := ⟨l_is_integer, kp_is_integer⟩,
    b_is_integer := (Fun.binds (st := s_is_integer) ⟨l_is_integer, kp_is_integer⟩ fun _ _ _ _ _ _ us hl => match us, hl with | [_], _ => rfl),
    m_is_count := PySem.W.mg_of X G a_is_count,
    F_is_count := ⟨l_is_count, kp_is_count⟩,
    b_is_count := (Fun.binds (st := s_is_count) ⟨l_is_count, kp_is_count⟩ fun _ _ _ _ _ _ us hl => match us, hl with | [_], _ => rfl),
    m_is_list := PySem.W.mg_of X G a_is_list,
    F_is_list := ⟨l_is_list, kp_is_list⟩,
    b_is_list := (Fun.binds (st := s_is_list) ⟨l_is_list, kp_is_list⟩ fun _ _ _ _ _ _ us hl => match us, hl with | [_], _ => rfl),
    m_is_value := PySem.W.mg_of X G a_is_value,
    F_is_value := ⟨l_is_value, kp_is_value⟩,
    b_is_value := (Fun.binds (st := s_is_value) ⟨l_is_value, kp_is_value⟩ fun _ _ _ _ _ _ us hl => match us, hl with | [_, _], _ => rfl),
    m_is_told := PySem.W.mg_of X G a_is_told,
    F_is_told := ⟨l_is_told, kp_is_told⟩,
    b_is_told := (Fun.binds (st := s_is_told) ⟨l_is_told, kp_is_told⟩ fun _ _ _ _ _ _ us hl => match us, hl with | [_], _ => rfl),
    F_Settings___init__ := ⟨l_Settings___init__, kp_Settings___init__⟩,
    b_Settings___init__ := (Fun.binds (st := s_Settings___init__) ⟨l_Settings___init__, kp_Settings___init__⟩ fun _ _ _ _ _ _ us hl => match us, hl with | [_, _], _ => rfl),
    F_Settings_value := ⟨l_Settings_value, kp_Settings_value⟩,
    b_Settings_value := (Fun.binds (st := s_Settings_value) ⟨l_Settings_value, kp_Settings_value⟩ fun _ _ _ _ _ _ us hl => match us, hl with | [_, _], _ => rfl),
    M_Settings_value := ⟨ma_Settings_value, mb_Settings_value, kp_Settings_value⟩,
    F_Settings_told := ⟨l_Settings_told, kp_Settings_told⟩,
    b_Settings_told := (Fun.binds (st := s_Settings_told) ⟨l_Settings_told, kp_Settings_told⟩ fun _ _ _ _ _ _ us hl => match us, hl with | [_], _ => rfl),
    M_Settings_told := ⟨ma_Settings_told, mb_Settings_told, kp_Settings_told⟩,
    F_Settings___eq__ := ⟨l_Settings___eq__, kp_Settings___eq__⟩,
    b_Settings___eq__ := (Fun.binds (st := s_Settings___eq__) ⟨l_Settings___eq__, kp_Settings___eq__⟩ fun _ _ _ _ _ _ us hl => match us, hl with | [_, _], _ => rfl),
    M_Settings___eq__ := ⟨ma_Settings___eq__, mb_Settings___eq__, kp_Settings___eq__⟩,
    m__law_pot := PySem.W.mg_of X G a__law_pot,
    F__law_pot := ⟨l__law_pot, kp__law_pot⟩,
    b__law_pot := (Fun.binds (st := s__law_pot) ⟨l__law_pot, kp__law_pot⟩ fun _ _ _ _ _ _ us hl => match us, hl with | [_, _], _ => rfl),
    m__law_draw := PySem.W.mg_of X G a__law_draw,
    F__law_draw := ⟨l__law_draw, kp__law_draw⟩,
    b__law_draw := (Fun.binds (st := s__law_draw) ⟨l__law_draw, kp__law_draw⟩ fun _ _ _ _ _ _ us hl => match us, hl with | [_, _], _ => rfl),
    m__law_pick := PySem.W.mg_of X G a__law_pick,
    F__law_pick := ⟨l__law_pick, kp__law_pick⟩,
    b__law_pick := (Fun.binds (st := s__law_pick) ⟨l__law_pick, kp__law_pick⟩ fun _ _ _ _ _ _ us hl => match us, hl with | [_, _], _ => rfl),
    m__law_table := PySem.W.mg_of X G a__law_table,
    F__law_table := ⟨l__law_table, kp__law_table⟩,
    b__law_table := (Fun.binds (st := s__law_table) ⟨l__law_table, kp__law_table⟩ fun _ _ _ _ _ _ us hl => match us, hl with | [], _ => rfl),
    m__law_is_let := PySem.W.mg_of X G a__law_is_let,
    F__law_is_let := ⟨l__law_is_let, kp__law_is_let⟩,
    b__law_is_let := (Fun.binds (st := s__law_is_let) ⟨l__law_is_let, kp__law_is_let⟩ fun _ _ _ _ _ _ us hl => match us, hl with | [_, _, _, _], _ => rfl),
    m__law_refused := PySem.W.mg_of X G a__law_refused,
    F__law_refused := ⟨l__law_refused, kp__law_refused⟩,
    b__law_refused := (Fun.binds (st := s__law_refused) ⟨l__law_refused, kp__law_refused⟩ fun _ _ _ _ _ _ us hl => match us, hl with | [_], _ => rfl),
    m__law_mixed := PySem.W.mg_of X G a__law_mixed,
    F__law_mixed := ⟨l__law_mixed, kp__law_mixed⟩,
    b__law_mixed := (Fun.binds (st := s__law_mixed) ⟨l__law_mixed, kp__law_mixed⟩ fun _ _ _ _ _ _ us hl => match us, hl with | [_, _], _ => rfl),
    m__law_values := PySem.W.mg_of X G a__law_values,
    F__law_values := ⟨l__law_values, kp__law_values⟩,
    b__law_values := (Fun.binds (st := s__law_values) ⟨l__law_values, kp__law_values⟩ fun _ _ _ _ _ _ us hl => match us, hl with | [_], _ => rfl),
    m__law_due := PySem.W.mg_of X G a__law_due,
    F__law_due := ⟨l__law_due, kp__law_due⟩,
    b__law_due := (Fun.binds (st := s__law_due) ⟨l__law_due, kp__law_due⟩ fun _ _ _ _ _ _ us hl => match us, hl with | [_], _ => rfl),
    m_law := PySem.W.mg_of X G a_law,
    F_law := ⟨l_law, kp_law⟩,
    b_law := (Fun.binds (st := s_law) ⟨l_law, kp_law⟩ fun _ _ _ _ _ _ us hl => match us, hl with | [_], _ => rfl),
    z_abs := PySem.W.mg_none_of X G z_abs,
    z_all := PySem.W.mg_none_of X G z_all,
    z_bool := PySem.W.mg_none_of X G z_bool,
    z_dict := PySem.W.mg_none_of X G z_dict,
    z_divmod := PySem.W.mg_none_of X G z_divmod,
    z_int := PySem.W.mg_none_of X G z_int,
    z_isinstance := PySem.W.mg_none_of X G z_isinstance,
    z_len := PySem.W.mg_none_of X G z_len,
    z_list := PySem.W.mg_none_of X G z_list,
    z_max := PySem.W.mg_none_of X G z_max,
    z_range := PySem.W.mg_none_of X G z_range,
    z_set := PySem.W.mg_none_of X G z_set,
    z_sorted := PySem.W.mg_none_of X G z_sorted,
    z_str := PySem.W.mg_none_of X G z_str,
    z_tuple := PySem.W.mg_none_of X G z_tuple,
    v_BOUNDS := PySem.W.mg_of X G v_BOUNDS,
    kq_BOUNDS := (ktabQ_of kl_BOUNDS (by decide +kernel) (by decide +kernel)),
    v_LINE_SIZES := PySem.W.mg_of X G v_LINE_SIZES,
    tq_LINE_SIZES := (fun H => .inr tl_LINE_SIZES) }
  have e := hfa.symm.trans T.m_law
  cases e
  refine ⟨d_law, fun s v => ?_, fun base _ _ => ok_law T⟩
  obtain ⟨oc, od, kV, dc, pm, an, cd, ct, sl, e, _, _⟩ := l_law
  rw [e]
  exact .of_eq rfl
theorem walk {l : PySem.W.OpenLaw} {q : Program} {loose : List Str} {XP : (Str → Option Value) → Heap → Prop} {YP : World → Heap → Prop} {d : DefRec} {K : Params → PySem.W.Frag} (hn : l.most = some 63) (hdf : d.params.defaults = [])
    (hY : ∀ (w : World) (h : Heap), YP w h → (K w.params).In h)
    (F : ∀ (w : World) (mg : Str → Option Value) (fa : Addr) (h : Heap), (K w.params).In h → h.Ns mainGlobals mg → mg d.name = some (.ref fa) →
      ∃ fd : FuncData, (∀ (s : Shared) (u : Value), BindsTo s fd ⟨[u], []⟩ [("_law_script", u)]) ∧ ∀ base : Heap, (K w.params).In base → base.Ns mainGlobals mg → FnOk l.prog w (K w.params) mg base (L2.CX l.prog w) 11 fa fd ["_law_script"] (sp_law (K w.params))) :
    PySem.W.WalkO q loose XP YP l.row.toRowW d [] (fun f vs => PySem.call f vs) :=
  L2.walk_of (n := 63) (k := 11) (x := "_law_script") (CX := fun w => L2.CX l.prog w) (sp := fun w => sp_law (K w.params)) hn (by decide) hdf ⟨rfl, by decide, by decide⟩ hY F (fun _ _ a ns hl _ hS => ⟨a, ns, rfl, hS, hl, fun _ => rfl⟩) fun w H s e s' z => (by
    obtain ⟨_, _, _, _, _, _, _, _, _, _, _, _, z⟩ := z
    exact z)
end Toy
open PySem PySem.W PyProof.Rows
set_option maxRecDepth 100000 in
set_option maxHeartbeats 0 in
theorem PySem.Challenge.cw_orderlycore_k13_whole_settings_told_holds : PySem.Challenge.rw_orderlycore_k13_whole_settings_told.Holds := by
  w_on; o_law; k_head; (case hw => w_witness2)
  k_fill
  refine Toy.walk (l := PySem.Challenge.rw_orderlycore_k13_whole_settings_told) rfl rfl (fun w h Y => PySem.W.kIn_of Y) ?F
  case F =>
    intro w mg fa h KX G hmg
    refine' Toy.all_mk KX G hmg ?a_CoreError ?xc_CoreError ?xs_CoreError ?xb_CoreError ?xy_CoreError ?xk_CoreError ?xi_CoreError ?xn_CoreError_value ?a_MissingError ?a_InvalidValues ?xc_InvalidValues ?xs_InvalidValues ?xb_InvalidValues ?xy_InvalidValues ?xk_InvalidValues ?xi_InvalidValues ?xn_InvalidValues_value ?xga_InvalidValues ?xgg_InvalidValues ?xhd_InvalidValues ?xl_InvalidValues ?xz_InvalidValues ?a_NoSuchName ?a_Settings ?pg_Settings ?hd_Settings ?po_Settings ?sa_Settings ?n_Settings_own_values ?ia_Settings ?ib_Settings ?ic_Settings ?id_Settings ?nq_Settings ?nm_Settings ?nf_Settings_list ?kv_Settings_list ?ky_Settings_list ?kz_Settings_list ?mk_Settings ?mi_Settings ?mf_Settings ?kc_Settings ?l_CoreError___init__ ?kp_CoreError___init__ ?xt_CoreError___init__ ?a_is_integer ?l_is_integer ?kp_is_integer ?a_is_count ?l_is_count ?kp_is_count ?a_is_list ?l_is_list ?kp_is_list ?a_is_value ?l_is_value ?kp_is_value ?a_is_told ?l_is_told ?kp_is_told ?l_Settings___init__ ?kp_Settings___init__ ?l_Settings_value ?kp_Settings_value ?ma_Settings_value ?mb_Settings_value ?l_Settings_told ?kp_Settings_told ?ma_Settings_told ?mb_Settings_told ?l_Settings___eq__ ?kp_Settings___eq__ ?ma_Settings___eq__ ?mb_Settings___eq__ ?a__law_pot ?l__law_pot ?kp__law_pot ?a__law_draw ?l__law_draw ?kp__law_draw ?a__law_pick ?l__law_pick ?kp__law_pick ?a__law_table ?l__law_table ?kp__law_table ?a__law_is_let ?l__law_is_let ?kp__law_is_let ?a__law_refused ?l__law_refused ?kp__law_refused ?a__law_mixed ?l__law_mixed ?kp__law_mixed ?a__law_values ?l__law_values ?kp__law_values ?a__law_due ?l__law_due ?kp__law_due ?a_law ?l_law ?kp_law ?z_abs ?z_all ?z_bool ?z_dict ?z_divmod ?z_int ?z_isinstance ?z_len ?z_list ?z_max ?z_range ?z_set ?z_sorted ?z_str ?z_tuple ?v_BOUNDS ?kl_BOUNDS ?v_LINE_SIZES ?tl_LINE_SIZES
    (case a_CoreError => k_is)
    (case xs_CoreError => k_is)
    (case xb_CoreError => k_is)
    (case xy_CoreError => k_is)
    (case xk_CoreError => k_is)
    (case xi_CoreError => k_is)
    (case xn_CoreError_value => k_is)
    (case a_MissingError => k_is)
    (case a_InvalidValues => k_is)
    (case xs_InvalidValues => k_is)
    (case xb_InvalidValues => k_is)
    (case xy_InvalidValues => k_is)
    (case xk_InvalidValues => k_is)
    (case xi_InvalidValues => k_is)
    (case xn_InvalidValues_value => k_is)
    (case xga_InvalidValues => k_is)
    (case xgg_InvalidValues => k_is)
    (case xhd_InvalidValues => k_is)
    (case xl_InvalidValues => k_is)
    (case xz_InvalidValues => first | rfl | k_is)
    (case a_NoSuchName => k_is)
    (case a_Settings => k_is)
    (case pg_Settings => k_is)
    (case hd_Settings => k_is)
    (case po_Settings => k_is)
    (case sa_Settings => k_is)
    (case n_Settings_own_values => k_is)
    (case ia_Settings => k_is)
    (case ib_Settings => k_is)
    (case ic_Settings => k_is)
    (case id_Settings => k_is)
    (case nq_Settings => k_is)
    (case nm_Settings => k_is)
    (case nf_Settings_list => k_is)
    (case kv_Settings_list => k_is)
    (case ky_Settings_list => k_is)
    (case kz_Settings_list => k_is)
    (case mk_Settings => k_is)
    (case mi_Settings => k_is)
    (case kc_Settings => k_is)
    (case a_is_integer => k_is)
    (case a_is_count => k_is)
    (case a_is_list => k_is)
    (case a_is_value => k_is)
    (case a_is_told => k_is)
    (case ma_Settings_value => k_is)
    (case ma_Settings_told => k_is)
    (case ma_Settings___eq__ => k_is)
    (case a__law_pot => k_is)
    (case a__law_draw => k_is)
    (case a__law_pick => k_is)
    (case a__law_table => k_is)
    (case a__law_is_let => k_is)
    (case a__law_refused => k_is)
    (case a__law_mixed => k_is)
    (case a__law_values => k_is)
    (case a__law_due => k_is)
    (case a_law => k_is)
    (case z_abs => k_is)
    (case z_all => k_is)
    (case z_bool => k_is)
    (case z_dict => k_is)
    (case z_divmod => k_is)
    (case z_int => k_is)
    (case z_isinstance => k_is)
    (case z_len => k_is)
    (case z_list => k_is)
    (case z_max => k_is)
    (case z_range => k_is)
    (case z_set => k_is)
    (case z_sorted => k_is)
    (case z_str => k_is)
    (case z_tuple => k_is)
    (case v_BOUNDS => k_is)
    (case kl_BOUNDS => exact ⟨_, _, ⟨by k_is, by exact ⟨⟨_, _, rfl, rfl⟩, ⟨⟨_, _, rfl, rfl⟩, ⟨⟨_, _, rfl, rfl⟩, ⟨⟨_, _, rfl, rfl⟩, ⟨⟨_, _, rfl, rfl⟩, ⟨⟨_, _, rfl, rfl⟩, ⟨⟨_, _, rfl, rfl⟩, ⟨⟨_, _, rfl, rfl⟩, ⟨⟨_, _, rfl, rfl⟩, ⟨⟨_, _, rfl, rfl⟩, ⟨⟨_, _, rfl, rfl⟩, ⟨⟨_, _, rfl, rfl⟩, ⟨⟨_, _, rfl, rfl⟩, ⟨⟨_, _, rfl, rfl⟩, ⟨⟨_, _, rfl, rfl⟩, ⟨⟨_, _, rfl, rfl⟩, ⟨⟨_, _, rfl, rfl⟩, ⟨⟨_, _, rfl, rfl⟩, ⟨⟨_, _, rfl, rfl⟩, ⟨⟨_, _, rfl, rfl⟩, ⟨⟨_, _, rfl, rfl⟩, ⟨⟨_, _, rfl, rfl⟩, ⟨⟨_, _, rfl, rfl⟩, ⟨⟨_, _, rfl, rfl⟩, trivial⟩⟩⟩⟩⟩⟩⟩⟩⟩⟩⟩⟩⟩⟩⟩⟩⟩⟩⟩⟩⟩⟩⟩⟩, by first | rfl | decide +kernel⟩, by exact ⟨⟨_, rfl⟩, ⟨_, rfl, _, _, _, by k_is, rfl, rfl, by decide, .cons ⟨_, rfl⟩ (.cons ⟨_, rfl⟩ (.cons ⟨_, rfl⟩ (.nil)))⟩, ⟨⟨_, rfl⟩, ⟨_, rfl, _, _, _, by k_is, rfl, rfl, by decide, .cons ⟨_, rfl⟩ (.cons ⟨_, rfl⟩ (.cons ⟨_, rfl⟩ (.nil)))⟩, ⟨⟨_, rfl⟩, ⟨_, rfl, _, _, _, by k_is, rfl, rfl, by decide, .cons ⟨_, rfl⟩ (.cons ⟨_, rfl⟩ (.cons ⟨_, rfl⟩ (.nil)))⟩, ⟨⟨_, rfl⟩, ⟨_, rfl, _, _, _, by k_is, rfl, rfl, by decide, .cons ⟨_, rfl⟩ (.cons ⟨_, rfl⟩ (.cons ⟨_, rfl⟩ (.nil)))⟩, ⟨⟨_, rfl⟩, ⟨_, rfl, _, _, _, by k_is, rfl, rfl, by decide, .cons ⟨_, rfl⟩ (.cons ⟨_, rfl⟩ (.cons ⟨_, rfl⟩ (.nil)))⟩, ⟨⟨_, rfl⟩, ⟨_, rfl, _, _, _, by k_is, rfl, rfl, by decide, .cons ⟨_, rfl⟩ (.cons ⟨_, rfl⟩ (.cons ⟨_, rfl⟩ (.nil)))⟩, ⟨⟨_, rfl⟩, ⟨_, rfl, _, _, _, by k_is, rfl, rfl, by decide, .cons ⟨_, rfl⟩ (.cons ⟨_, rfl⟩ (.cons ⟨_, rfl⟩ (.nil)))⟩, ⟨⟨_, rfl⟩, ⟨_, rfl, _, _, _, by k_is, rfl, rfl, by decide, .cons ⟨_, rfl⟩ (.cons ⟨_, rfl⟩ (.cons ⟨_, rfl⟩ (.nil)))⟩, ⟨⟨_, rfl⟩, ⟨_, rfl, _, _, _, by k_is, rfl, rfl, by decide, .cons ⟨_, rfl⟩ (.cons ⟨_, rfl⟩ (.cons ⟨_, rfl⟩ (.nil)))⟩, ⟨⟨_, rfl⟩, ⟨_, rfl, _, _, _, by k_is, rfl, rfl, by decide, .cons ⟨_, rfl⟩ (.cons ⟨_, rfl⟩ (.cons ⟨_, rfl⟩ (.nil)))⟩, ⟨⟨_, rfl⟩, ⟨_, rfl, _, _, _, by k_is, rfl, rfl, by decide, .cons ⟨_, rfl⟩ (.cons ⟨_, rfl⟩ (.cons ⟨_, rfl⟩ (.nil)))⟩, ⟨⟨_, rfl⟩, ⟨_, rfl, _, _, _, by k_is, rfl, rfl, by decide, .cons ⟨_, rfl⟩ (.cons ⟨_, rfl⟩ (.cons ⟨_, rfl⟩ (.nil)))⟩, ⟨⟨_, rfl⟩, ⟨_, rfl, _, _, _, by k_is, rfl, rfl, by decide, .cons ⟨_, rfl⟩ (.cons ⟨_, rfl⟩ (.cons ⟨_, rfl⟩ (.nil)))⟩, ⟨⟨_, rfl⟩, ⟨_, rfl, _, _, _, by k_is, rfl, rfl, by decide, .cons ⟨_, rfl⟩ (.cons ⟨_, rfl⟩ (.cons ⟨_, rfl⟩ (.nil)))⟩, ⟨⟨_, rfl⟩, ⟨_, rfl, _, _, _, by k_is, rfl, rfl, by decide, .cons ⟨_, rfl⟩ (.cons ⟨_, rfl⟩ (.cons ⟨_, rfl⟩ (.nil)))⟩, ⟨⟨_, rfl⟩, ⟨_, rfl, _, _, _, by k_is, rfl, rfl, by decide, .cons ⟨_, rfl⟩ (.cons ⟨_, rfl⟩ (.cons ⟨_, rfl⟩ (.nil)))⟩, ⟨⟨_, rfl⟩, ⟨_, rfl, _, _, _, by k_is, rfl, rfl, by decide, .cons ⟨_, rfl⟩ (.cons ⟨_, rfl⟩ (.cons ⟨_, rfl⟩ (.nil)))⟩, ⟨⟨_, rfl⟩, ⟨_, rfl, _, _, _, by k_is, rfl, rfl, by decide, .cons ⟨_, rfl⟩ (.cons ⟨_, rfl⟩ (.cons ⟨_, rfl⟩ (.nil)))⟩, ⟨⟨_, rfl⟩, ⟨_, rfl, _, _, _, by k_is, rfl, rfl, by decide, .cons ⟨_, rfl⟩ (.cons ⟨_, rfl⟩ (.cons ⟨_, rfl⟩ (.nil)))⟩, ⟨⟨_, rfl⟩, ⟨_, rfl, _, _, _, by k_is, rfl, rfl, by decide, .cons ⟨_, rfl⟩ (.cons ⟨_, rfl⟩ (.cons ⟨_, rfl⟩ (.nil)))⟩, ⟨⟨_, rfl⟩, ⟨_, rfl, _, _, _, by k_is, rfl, rfl, by decide, .cons ⟨_, rfl⟩ (.cons ⟨_, rfl⟩ (.cons ⟨_, rfl⟩ (.nil)))⟩, ⟨⟨_, rfl⟩, ⟨_, rfl, _, _, _, by k_is, rfl, rfl, by decide, .cons ⟨_, rfl⟩ (.cons ⟨_, rfl⟩ (.cons ⟨_, rfl⟩ (.nil)))⟩, ⟨⟨_, rfl⟩, ⟨_, rfl, _, _, _, by k_is, rfl, rfl, by decide, .cons ⟨_, rfl⟩ (.cons ⟨_, rfl⟩ (.cons ⟨_, rfl⟩ (.nil)))⟩, ⟨⟨_, rfl⟩, ⟨_, rfl, _, _, _, by k_is, rfl, rfl, by decide, .cons ⟨_, rfl⟩ (.cons ⟨_, rfl⟩ (.cons ⟨_, rfl⟩ (.nil)))⟩, trivial⟩⟩⟩⟩⟩⟩⟩⟩⟩⟩⟩⟩⟩⟩⟩⟩⟩⟩⟩⟩⟩⟩⟩⟩⟩)
    (case v_LINE_SIZES => k_is)
    (case tl_LINE_SIZES => exact ⟨_, _, _, by k_is, rfl, rfl, by decide, .cons ⟨_, rfl⟩ (.cons ⟨_, rfl⟩ (.cons ⟨_, rfl⟩ (.cons ⟨_, rfl⟩ (.cons ⟨_, rfl⟩ (.nil)))))⟩)
    (case xc_CoreError => exact ⟨_, _, _, _, _, _, _, _, _, _, _, _, _, _, by k_is⟩)
    (case xc_InvalidValues => exact ⟨_, _, _, _, _, _, _, _, _, _, _, _, _, _, by k_is⟩)
    (case mf_Settings => k_is)
    (case l_CoreError___init__ => exact ⟨_, _, _, _, _, _, _, _, _, rfl, by k_is, by k_is⟩)
    (case kp_CoreError___init__ => k_is)
    (case xt_CoreError___init__ => k_is)
    (case l_is_integer => exact ⟨_, _, _, _, _, _, _, _, _, rfl, by k_is, by k_is⟩)
    (case kp_is_integer => k_is)
    (case l_is_count => exact ⟨_, _, _, _, _, _, _, _, _, rfl, by k_is, by k_is⟩)
    (case kp_is_count => k_is)
    (case l_is_list => exact ⟨_, _, _, _, _, _, _, _, _, rfl, by k_is, by k_is⟩)
    (case kp_is_list => k_is)
    (case l_is_value => exact ⟨_, _, _, _, _, _, _, _, _, rfl, by k_is, by k_is⟩)
    (case kp_is_value => k_is)
    (case l_is_told => exact ⟨_, _, _, _, _, _, _, _, _, rfl, by k_is, by k_is⟩)
    (case kp_is_told => k_is)
    (case l_Settings___init__ => exact ⟨_, _, _, _, _, _, _, _, _, rfl, by k_is, by k_is⟩)
    (case kp_Settings___init__ => k_is)
    (case l_Settings_value => exact ⟨_, _, _, _, _, _, _, _, _, rfl, by k_is, by k_is⟩)
    (case kp_Settings_value => k_is)
    (case mb_Settings_value => k_is)
    (case l_Settings_told => exact ⟨_, _, _, _, _, _, _, _, _, rfl, by k_is, by k_is⟩)
    (case kp_Settings_told => k_is)
    (case mb_Settings_told => k_is)
    (case l_Settings___eq__ => exact ⟨_, _, _, _, _, _, _, _, _, rfl, by k_is, by k_is⟩)
    (case kp_Settings___eq__ => k_is)
    (case mb_Settings___eq__ => k_is)
    (case l__law_pot => exact ⟨_, _, _, _, _, _, _, _, _, rfl, by k_is, by k_is⟩)
    (case kp__law_pot => k_is)
    (case l__law_draw => exact ⟨_, _, _, _, _, _, _, _, _, rfl, by k_is, by k_is⟩)
    (case kp__law_draw => k_is)
    (case l__law_pick => exact ⟨_, _, _, _, _, _, _, _, _, rfl, by k_is, by k_is⟩)
    (case kp__law_pick => k_is)
    (case l__law_table => exact ⟨_, _, _, _, _, _, _, _, _, rfl, by k_is, by k_is⟩)
    (case kp__law_table => k_is)
    (case l__law_is_let => exact ⟨_, _, _, _, _, _, _, _, _, rfl, by k_is, by k_is⟩)
    (case kp__law_is_let => k_is)
    (case l__law_refused => exact ⟨_, _, _, _, _, _, _, _, _, rfl, by k_is, by k_is⟩)
    (case kp__law_refused => k_is)
    (case l__law_mixed => exact ⟨_, _, _, _, _, _, _, _, _, rfl, by k_is, by k_is⟩)
    (case kp__law_mixed => k_is)
    (case l__law_values => exact ⟨_, _, _, _, _, _, _, _, _, rfl, by k_is, by k_is⟩)
    (case kp__law_values => k_is)
    (case l__law_due => exact ⟨_, _, _, _, _, _, _, _, _, rfl, by k_is, by k_is⟩)
    (case kp__law_due => k_is)
    (case l_law => exact ⟨_, _, _, _, _, _, _, _, _, rfl, by k_is, by k_is⟩)
    (case kp_law => k_is)
#print axioms PySem.Challenge.cw_orderlycore_k13_whole_settings_told_holds
