import PyProof.Rows.All
import Wide.All
import OpenK.AllK
import Wide.FinOn
import HandS.ForMost
import HandS.ForExc
import HandS.Property
import HandS.IsInst
import HandS.ExcInit
import HandS.Defaults
import HandS.MakeKwOnly
import HandS.Flow
import HandS.CallSlots
import HandS.Evl
import HandS.Wide
import HandS.Walk
import HandS.Conv
import HandS.Style
import HandS.Base
import HandS.List
import HandS.Words
import HandS.SortInts
import PyProof.ReprRoads
import PyProof.ReprLen
import HandS.More
import PySem.Challenge.RW_orderlycore_k77_whole_loads_get_what_the
set_option Elab.async false
set_option linter.all false
set_option maxRecDepth 100000
set_option maxHeartbeats 4000000

namespace Toy
open PySem L2
theorem exm_self {K : PySem.W.Frag} {S : Addr} (h1 : PySem.W.subIn K (.ref S) (.type "BaseException") = some true) (h2 : PySem.W.isClsIn K S = true) (h3 : PySem.W.typeIn K (.ref S) = some (.type "type")) (h4 : PySem.W.subIn K (.ref S) (.ref S) = some true) :
    PySem.W.exmOne K (.ref S) (.ref S) = some true := by
  have e1 : (PySem.W.subIn K (.ref S) (.type "BaseException") == some true) = true := by rw [h1] <;> rfl
  have e2 : ((PySem.W.clsIn K S).isSome && PySem.W.typeIn K (.ref S) == some (.type "type")) = true := by
    have h2' : (PySem.W.clsIn K S).isSome = true := h2
    rw [h2', h3] <;> rfl
  show (if (PySem.W.subIn K (.ref S) (.type "BaseException") == some true) = true then (if ((PySem.W.clsIn K S).isSome && PySem.W.typeIn K (.ref S) == some (.type "type")) = true then PySem.W.subIn K (.ref S) (.ref S) else none) else none) = some true
  rw [if_pos e1, if_pos e2]
  exact h4
theorem vals_getD {vs : List V} {us : List Value} (r : Vals vs us) (i : Nat) : RelV (vs.getD i V.non) (us.getD i PySem.Value.none) := by
  induction r generalizing i with
  | nil => rfl
  | cons h t ih =>
    cases i with
    | zero => exact h
    | succ i => exact ih i
theorem kbn_of {K : PySem.W.Frag} {x qual : Str} {st : Stmt} {f : Addr} {fd : FuncData} {ps ks : List Str} {n : Nat} {g : List Value → List Value → List Value} {gV : List V → List V → List V} (F : Fun K x qual st f fd)
    (h : ∀ (kV doc pm : Value) (an : Option Addr) (cdv ct : Value) (us ws : List Value), us.length = n → ws.length = ks.length → bindArgs (PySem.W.fnOf x qual (defArgs st) (defBody st) (defScope st) .none kV doc pm an cdv ct) ⟨us, ks.zip ws⟩ = pure (ps.zip (g us ws)))
    (hr : ∀ {vs : List V} {us : List Value} {zs : List V} {ws : List Value}, Vals vs us → Vals zs ws → Vals (gV vs zs) (g us ws)) : KBn K fd ps n ks g gV := by
  obtain ⟨oc, od, kV, doc, pm, an, cdv, ct, osl, rfl, lk, hcd⟩ := F.ex
  exact ⟨fun s us ws _ h1 h2 => .of_eq (h kV doc pm an cdv ct us ws h1 h2), hr⟩
theorem same_new {H : Hp} {p : Addr} {o : HO} (h : H p = none) : Same H (upd H p o) := fun b u e => by
  rw [upd_ne (ne_of_none e h)]
  exact e
theorem same_ty {K : PySem.W.Frag} {H H' : Hp} {v : V} {t : Value} (e : Same H H') (h : TyX K H v t) : TyX K H' v t := by
  cases h with
  | base h =>
    refine .base ?_
    cases h with
    | non => exact .non
    | bl x => exact .bl x
    | int i => exact .int i
    | str x => exact .str x
    | flt x => exact .flt x
    | lst q => exact .lst (e _ _ q)
    | frz q => exact .frz (e _ _ q)
    | tup q => exact .tup (e _ _ q)
    | dK q => exact .dK (e _ _ q)
    | dT q => exact .dT (e _ _ q)
    | ins q cl ha hn htk hm => exact .ins (e _ _ q) cl ha hn htk hm
  | byt b => exact .byt b
  | set q => exact .set (e _ _ q)
  | kList q c => exact .kList q c
  | kTuple q c => exact .kTuple q c
  | kDict q c => exact .kDict q c
  | fTuple q => exact .fTuple (e _ _ q)
  | fDict q => exact .fDict (e _ _ q)
/-! ### stepping through a reading -/
section
variable {K : PySem.W.Frag} {σ τ : St} {H H' : Hp} {Q : VK} {D : Ends} {nx bk ct : St → Hp → Prop} {rt : VK} {v x y : V} {te ta tb : TE} {t u : TS} {c d : TT} {p : Addr}
theorem w_in {N : List Str} {vs : List V} (h : start N vs = σ) (q : t D σ H) : t D (start N vs) H := by rw [h]; exact q
theorem w_var {i : Nat} (h : σ[i]? = some (some v)) (q : Q v H) : tVar i σ H Q := ⟨v, h, q⟩
theorem w_c (q : Q v H) : tC v σ H Q := q
theorem w_op {r : R2} (q : ta σ H fun x H1 => tb σ H1 fun y H2 => r x y H2 Q) : tOp r ta tb σ H Q := q
theorem w_un {r : V → Hp → VK → Prop} (q : ta σ H fun x H1 => r x H1 Q) : tUn r ta σ H Q := q
theorem w_I0 {g : Int → Int → V} {i j : Int} (q : Q (g i j) H) : rI0 g (.int i) (.int j) H Q := ⟨i, j, rfl, rfl, q⟩
theorem w_I {C : Int → Int → Prop} {g : Int → Int → V} {i j : Int} (hc : C i j) (q : Q (g i j) H) : rI C g (.int i) (.int j) H Q := ⟨i, j, rfl, rfl, hc, q⟩
theorem w_U {g : Int → V} {i : Int} (q : Q (g i) H) : rU g (.int i) H Q := ⟨i, rfl, q⟩
theorem w_eq (h : scal x y = true) (q : Q (.bl (decide (x = y))) H) : rEq x y H Q := ⟨h, q⟩
theorem w_ne (h : scal x y = true) (q : Q (.bl (!decide (x = y))) H) : rNe x y H Q := ⟨h, q⟩
theorem w_cb {r : List V → Hp → VK → Prop} {t : TA} (q : t σ H fun vs H1 => r vs H1 Q) : tCB r t σ H Q := q
theorem w_nil {Q : List V → Hp → Prop} (q : Q [] H) : tNil σ H Q := q
theorem w_cons {Q : List V → Hp → Prop} {tr : TA} (q : ta σ H fun x H1 => tr σ H1 fun xs H2 => Q (x :: xs) H2) : tCons ta tr σ H Q := q
theorem w_call {sp : Sp} {dvs : List V} {E : XK} {t : TA} (q : t σ H fun vs H1 => sp (vs ++ dvs) H1 Q E) : tCall sp dvs E t σ H Q := q
theorem w_tup {t : TA} (q : t σ H fun xs H1 => xs.length ≤ sizeLine ∧ ∀ p, H1 p = none → Q (.ref p) (upd H1 p (.tup xs))) : tTup t σ H Q := q
theorem w_lst {t : TA} (q : t σ H fun xs H1 => xs.length ≤ sizeLine ∧ ∀ p, H1 p = none → Q (.ref p) (upd H1 p (.lst xs))) : tLst t σ H Q := q
theorem w_laid {n : Nat} {R : Addr → Prop} (h : n ≤ 100000) (q : ∀ p, H p = none → R p) : n ≤ sizeLine ∧ ∀ p, H p = none → R p := ⟨Nat.le_trans h (by decide), q⟩
def kFld (K : PySem.W.Frag) (f : Str) (Q : VK) (x : V) (H : Hp) : Prop := ∃ a C dx fs v, x = .ref a ∧ H a = some (.ins C dx fs) ∧ Cls K C ∧ NoAttr K C f ∧ fs.lookup f = some v ∧ Q v H
theorem w_fld0 {f : Str} (q : ta σ H fun x H1 => kFld K f Q x H1) : tFld K ta f σ H Q := q
theorem w_fld {f : Str} {a C dx : Addr} {fs : List (Str × V)} (h : H a = some (.ins C dx fs)) (hc : Cls K C) (hn : NoAttr K C f) (hl : fs.lookup f = some v) (q : Q v H) : kFld K f Q (.ref a) H :=
  ⟨a, C, dx, fs, v, rfl, h, hc, hn, hl, q⟩
def kSF (K : PySem.W.Frag) (f : Str) (nx : St → Hp → Prop) (σ : St) (y x : V) (H : Hp) : Prop := ∃ a C dx fs, x = .ref a ∧ H a = some (.ins C dx fs) ∧ Cls K C ∧ NoAttr K C f ∧ fs.length < 1000 ∧ nx σ (upd H a (.ins C dx (putF f y fs)))
theorem w_sfld0 {f : Str} {tv : TE} (q : tv σ H fun y H1 => ta σ H1 fun x H2 => kSF K f nx σ y x H2) : sFld K ta tv f ⟨nx, rt, bk, ct⟩ σ H := q
theorem w_sfld {f : Str} {a C dx : Addr} {fs fs' : List (Str × V)} (h : H a = some (.ins C dx fs)) (hc : Cls K C) (hn : NoAttr K C f) (hl : fs.length < 1000) (he : putF f y fs = fs') (q : nx σ (upd H a (.ins C dx fs'))) : kSF K f nx σ y (.ref a) H :=
  ⟨a, C, dx, fs, rfl, h, hc, hn, hl, by rw [he]; exact q⟩
theorem w_meth0 {C : Addr} {m : Str} {sp : Sp} {dvs : List V} {E : XK} {t : TA} (q : ta σ H fun x H1 => ∃ a dx fs, x = .ref a ∧ H1 a = some (.ins C dx fs) ∧ fs.lookup m = none ∧ t σ H1 fun vs H2 => sp (x :: (vs ++ dvs)) H2 Q E) : tMeth C m sp dvs E ta t σ H Q := q
theorem w_meth {R : Prop} {m : Str} {a C dx : Addr} {fs : List (Str × V)} (h : H a = some (.ins C dx fs)) (hl : fs.lookup m = none) (q : R) : ∃ a' dx fs, V.ref a = .ref a' ∧ H a' = some (.ins C dx fs) ∧ fs.lookup m = none ∧ R := ⟨a, dx, fs, rfl, h, hl, q⟩
theorem w_prop0 {C : Addr} {sp : Sp} {dvs : List V} {E : XK} (q : ta σ H fun x H1 => ∃ a dx fs, x = .ref a ∧ H1 a = some (.ins C dx fs) ∧ sp (.ref a :: dvs) H1 Q E) : tProp C sp dvs E ta σ H Q := q
theorem w_prop {C a dx : Addr} {fs : List (Str × V)} {sp : Sp} {dvs : List V} {E : XK} (h : H a = some (.ins C dx fs)) (q : sp (.ref a :: dvs) H Q E) : ∃ a' dx fs, V.ref a = .ref a' ∧ H a' = some (.ins C dx fs) ∧ sp (.ref a' :: dvs) H Q E := ⟨a, dx, fs, rfl, h, q⟩
theorem w_make {C : Addr} {sp : Sp} {dvs : List V} {E : XK} {t : TA} (q : t σ H fun vs H1 => ∀ x dx, H1 x = none → H1 dx = none → dx ≠ x → sp (.ref x :: (vs ++ dvs)) (upd (upd H1 dx (.own x)) x (.ins C dx [])) (fun v H2 => v = .non ∧ Q (.ref x) H2) E) : tMake C sp dvs E t σ H Q := q
theorem w_makeK {C : Addr} {j l : Nat} {sp : Sp} {gV : List V → List V → List V} {E : XK} {t tk : TA} (q : t σ H fun vs H1 => tk σ H1 fun zs H2 => vs.length = j ∧ zs.length = l ∧ ∀ x dx, H2 x = none → H2 dx = none → dx ≠ x → sp (gV (.ref x :: vs) zs) (upd (upd H2 dx (.own x)) x (.ins C dx [])) (fun v H2 => v = .non ∧ Q (.ref x) H2) E) : tMakeK C j l sp gV E t tk σ H Q := q
theorem w_ixL {a : Addr} {xs : List V} {i : Int} (h : SqL K H a xs) (hi : atI xs i = some v) (q : Q v H) : rIxL K (.ref a) (.int i) H Q := ⟨a, xs, i, v, rfl, rfl, h, hi, q⟩
theorem w_ixT {a : Addr} {xs : List V} {i : Int} (h : SqT K H a xs) (hi : atI xs i = some v) (q : Q v H) : rIxT K (.ref a) (.int i) H Q := ⟨a, xs, i, v, rfl, rfl, h, hi, q⟩
theorem w_setL {a : Addr} {xs : List V} {i : Int} {j : Nat} {Q : Hp → Prop} (h : H a = some (.lst xs)) (hi : ixN xs.length i = some j) (q : Q (upd H a (.lst (xs.set j v)))) : rSetL (.ref a) (.int i) v H Q := ⟨a, xs, i, j, rfl, rfl, h, hi, q⟩
theorem w_gsub {to ti : TE} {ts : TSet} {Q : St → Hp → Prop} (q : to σ H fun o H1 => ti σ H1 fun i H2 => ts o i v H2 fun H3 => Q σ H3) : gSub to ti ts v σ H Q := q
theorem w_gname {i : Nat} {Q : St → Hp → Prop} (q : Q (σ.set i (some v)) H) : gName i v σ H Q := q
theorem w_gtup {n : Nat} {ts : TGs} {a : Addr} {xs : List V} {Q : St → Hp → Prop} (h : SqT K H a xs) (hn : xs.length = n) (q : ts xs σ H Q) : gTup K n ts (.ref a) σ H Q := ⟨a, xs, rfl, h, hn, q⟩
theorem w_gcons {tg : TG} {ts : TGs} {r : List V} {Q : St → Hp → Prop} (q : tg v σ H fun σ' H' => ts r σ' H' Q) : gCons tg ts (v :: r) σ H Q := ⟨v, r, rfl, q⟩
theorem w_gnil {Q : St → Hp → Prop} (q : Q σ H) : gNil [] σ H Q := ⟨rfl, q⟩
theorem w_seq (q : t ⟨u ⟨nx, rt, bk, ct⟩, rt, bk, ct⟩ σ H) : tSeq t u ⟨nx, rt, bk, ct⟩ σ H := q
theorem w_dec {c : Prop} [Decidable c] (h : c) (q : Q (.bl true) H) : Q (.bl (decide c)) H := by rw [decide_eq_true h]; exact q
theorem w_cut (M : St → Hp → Prop) (q : t ⟨M, rt, bk, ct⟩ σ H) (k : ∀ σ' H', M σ' H' → u ⟨nx, rt, bk, ct⟩ σ' H') : Evl.tCut t u ⟨nx, rt, bk, ct⟩ σ H := ⟨M, q, k⟩
theorem w_next (q : nx σ H) : tNext ⟨nx, rt, bk, ct⟩ σ H := q
theorem w_brk (q : bk σ H) : tBreak ⟨nx, rt, bk, ct⟩ σ H := q
theorem w_cont (q : ct σ H) : tCont ⟨nx, rt, bk, ct⟩ σ H := q
theorem w_drop (q : te σ H fun _ H1 => nx σ H1) : tDrop te ⟨nx, rt, bk, ct⟩ σ H := q
theorem w_ret (q : te σ H rt) : tRet te ⟨nx, rt, bk, ct⟩ σ H := q
theorem w_retN (q : rt .non H) : tRetN ⟨nx, rt, bk, ct⟩ σ H := q
theorem w_asg {g : TG} (q : te σ H fun x H1 => g x σ H1 nx) : tAsg te g ⟨nx, rt, bk, ct⟩ σ H := q
theorem w_ifs (q : c σ H fun b H1 => if b = true then t ⟨nx, rt, bk, ct⟩ σ H1 else u ⟨nx, rt, bk, ct⟩ σ H1) : tIfS c t u ⟨nx, rt, bk, ct⟩ σ H := q
theorem w_par {i j : Nat} {t : TA} (q : t σ H fun vs H1 => ∃ v w, vs = [v, w] ∧ nx ((σ.set i (some v)).set j (some w)) H1) : tPar i j t ⟨nx, rt, bk, ct⟩ σ H := q
theorem w_vw {v w : V} {R : V → V → Prop} (q : R v w) : ∃ v' w', [v, w] = [v', w'] ∧ R v' w' := ⟨v, w, rfl, q⟩
theorem w_if0 (q : c σ H fun b H1 => if b = true then ta σ H1 Q else tb σ H1 Q) : tIf c ta tb σ H Q := q
theorem w_test {Q : Bool → Hp → Prop} (q : te σ H fun x H' => ∃ k, x = .bl k ∧ Q k H') : tTest te σ H Q := q
theorem w_B {Q : Bool → Hp → Prop} (q : te σ H fun x H' => ∃ k, x = .bl k ∧ Q k H') : tB te σ H Q := q
theorem w_and {Q : Bool → Hp → Prop} (q : c σ H fun b H1 => if b = true then d σ H1 Q else Q false H1) : tAnd c d σ H Q := q
theorem w_or {Q : Bool → Hp → Prop} (q : c σ H fun b H1 => if b = true then Q true H1 else d σ H1 Q) : tOr c d σ H Q := q
theorem w_not {Q : Bool → Hp → Prop} (q : c σ H fun b H1 => Q (!b) H1) : tNot c σ H Q := q
theorem w_andV (q : ta σ H fun x H1 => ∃ k, x = .bl k ∧ if k = true then tb σ H1 Q else Q (.bl false) H1) : tAndV ta tb σ H Q := q
theorem w_orV (q : ta σ H fun x H1 => ∃ k, x = .bl k ∧ if k = true then Q (.bl true) H1 else tb σ H1 Q) : tOrV ta tb σ H Q := q
theorem w_notV (q : ta σ H fun x H1 => ∃ k, x = .bl k ∧ Q (.bl (!k)) H1) : tNotV ta σ H Q := q
theorem w_bl {b : Bool} {R : Bool → Prop} (q : R b) : ∃ k, V.bl b = .bl k ∧ R k := ⟨b, rfl, q⟩
theorem w_iI {i : Int} {R : Int → Prop} (q : R i) : ∃ k, [V.int i] = [.int k] ∧ R k := ⟨i, rfl, q⟩
theorem w_iIJ {i j : Int} {R : Int → Int → Prop} (q : R i j) : ∃ k l, [V.int i, V.int j] = [.int k, .int l] ∧ R k l := ⟨i, j, rfl, q⟩
theorem w_int1 {i : Int} {R : Int → Prop} {S : Bool → Prop} (q : R i) : (∃ k, [V.int i] = [.int k] ∧ R k) ∨ ∃ b, [V.int i] = [.bl b] ∧ S b := .inl ⟨i, rfl, q⟩
theorem w_lenL {a : Addr} {xs : List V} {R : List V → Prop} (h : SqL K H a xs) (q : R xs) : ∃ p ys, [V.ref a] = [.ref p] ∧ (SqL K H p ys ∨ SqT K H p ys) ∧ R ys := ⟨a, xs, rfl, .inl h, q⟩
theorem w_lenT {a : Addr} {xs : List V} {R : List V → Prop} (h : SqT K H a xs) (q : R xs) : ∃ p ys, [V.ref a] = [.ref p] ∧ (SqL K H p ys ∨ SqT K H p ys) ∧ R ys := ⟨a, xs, rfl, .inr h, q⟩
theorem ifT {c A B : Prop} [Decidable c] (h : c) (q : A) : if decide c = true then A else B := by rw [decide_eq_true h]; exact iteT q
theorem ifF {c A B : Prop} [Decidable c] (h : ¬ c) (q : B) : if decide c = true then A else B := by rw [decide_eq_false h]; exact iteF q
theorem ifT' {c A B : Prop} [Decidable c] (h : c) (q : B) : if (!decide c) = true then A else B := by rw [decide_eq_true h]; exact iteF q
theorem ifF' {c A B : Prop} [Decidable c] (h : ¬ c) (q : A) : if (!decide c) = true then A else B := by rw [decide_eq_false h]; exact iteT q
theorem ifS {c A B : Prop} [Decidable c] (h1 : c → A) (h2 : ¬ c → B) : if decide c = true then A else B := by
  by_cases h : c
  · exact ifT h (h1 h)
  · exact ifF h (h2 h)
theorem ifS' {c A B : Prop} [Decidable c] (h1 : c → B) (h2 : ¬ c → A) : if (!decide c) = true then A else B := by
  by_cases h : c
  · exact ifT' h (h1 h)
  · exact ifF' h (h2 h)
theorem ifB {b : Bool} {A B : Prop} (h1 : b = true → A) (h2 : b = false → B) : if b = true then A else B := by
  cases b with
  | true => exact iteT (h1 rfl)
  | false => exact iteF (h2 rfl)
theorem w_andP {b1 b2 : Bool} {Q : Bool → Hp → Prop} (hc : ∀ R : Bool → Hp → Prop, R b1 H → c σ H R) (hd : ∀ R : Bool → Hp → Prop, R b2 H → d σ H R) (q : Q (b1 && b2) H) : tAnd c d σ H Q := by
  refine hc _ ?_
  cases b1 with
  | true => exact iteT (hd _ q)
  | false => exact iteF q
theorem w_orP {b1 b2 : Bool} {Q : Bool → Hp → Prop} (hc : ∀ R : Bool → Hp → Prop, R b1 H → c σ H R) (hd : ∀ R : Bool → Hp → Prop, R b2 H → d σ H R) (q : Q (b1 || b2) H) : tOr c d σ H Q := by
  refine hc _ ?_
  cases b1 with
  | true => exact iteT q
  | false => exact iteF (hd _ q)
theorem dec_vint {i j : Int} : decide (V.int i = V.int j) = decide (i = j) := by
  by_cases h : i = j
  · subst h; simp
  · rw [decide_eq_false h, decide_eq_false (fun e => h (V.int.inj e))]
end
/-- only what stands at p may have changed -/
def Chg (p : Addr) (H H' : Hp) : Prop := ∀ b o, H b = some o → b ≠ p → H' b = some o
theorem Chg.refl {p : Addr} {H : Hp} : Chg p H H := fun _ _ h _ => h
theorem Chg.same {p : Addr} {H H' H1 : Hp} (a : Chg p H H') (b : Same H' H1) : Chg p H H1 := fun c o h n => b c o (a c o h n)
theorem Same.chg {p : Addr} {H H' : Hp} (a : Same H H') : Chg p H H' := fun b o h _ => a b o h
theorem Chg.trans {p : Addr} {H H' H1 : Hp} (a : Chg p H H') (b : Chg p H' H1) : Chg p H H1 := fun c o h n => b c o (a c o h n) n
theorem Chg.upd {p : Addr} {H H' : Hp} {o : HO} (a : Chg p H H') : Chg p H (upd H' p o) := fun c u h n => by rw [upd_ne n]; exact a c u h n
theorem same_upd {H H' : Hp} {p : Addr} {o : HO} (a : Same H H') (h : H' p = none) : Same H (upd H' p o) := a.trans (same_new h)
theorem same_updF {H H' : Hp} {p : Addr} {o : HO} (a : Same H H') (h : H p = none) : Same H (upd H' p o) := fun b u e => by
  rw [upd_ne (ne_of_none e h)]
  exact a b u e
theorem atI_ints {ns : List Int} {k : Int} (h0 : 0 ≤ k) (h : k < (ns.map V.int).length) : ∃ n, n ∈ ns ∧ atI (ns.map V.int) k = some (.int n) ∧ ns[k.toNat]? = some n := by
  rw [List.length_map] at h
  have hj : k.toNat < ns.length := by omega
  refine ⟨ns[k.toNat], List.getElem_mem hj, ?_, List.getElem?_eq_getElem hj⟩
  have e : ((k.toNat : Nat) : Int) = k := by omega
  have q : atI (ns.map V.int) ((k.toNat : Nat) : Int) = some (V.int ns[k.toNat]) := atI_nat (by rw [List.getElem?_map]; simp [hj])
  rw [e] at q
  exact q
theorem atI_mem {xs : List V} {k : Int} (h0 : 0 ≤ k) (h : k < xs.length) : ∃ v, v ∈ xs ∧ atI xs k = some v ∧ xs[k.toNat]? = some v := by
  have hj : k.toNat < xs.length := by omega
  refine ⟨xs[k.toNat], List.getElem_mem hj, ?_, List.getElem?_eq_getElem hj⟩
  have e : ((k.toNat : Nat) : Int) = k := by omega
  have q : atI xs ((k.toNat : Nat) : Int) = some xs[k.toNat] := atI_nat (by simp [hj])
  rw [e] at q
  exact q
/-! ### rules with the written part by its name (within a comprehension) -/
section
variable {X : Cx} {K : PySem.W.Frag}
theorem ixLK (h : X.K = K := by rfl) : IxR X (rIxL K) := h ▸ ix_list
theorem ixTK (h : X.K = K := by rfl) : IxR X (rIxT K) := h ▸ ix_tup
theorem inK (h : X.K = K := by rfl) : OpR X (compareOp .In) (rIn K false) := h ▸ op_in_seq
theorem notInK (h : X.K = K := by rfl) : OpR X (compareOp .NotIn) (rIn K true) := h ▸ op_notIn_seq
theorem slLK (h : X.K = K := by rfl) : SlR X (rSlL K) := h ▸ sl_list
theorem slTK (h : X.K = K := by rfl) : SlR X (rSlT K) := h ▸ sl_tup
theorem eqDK (hu : X.A.units + 64 < cLine) (h : X.K = K := by rfl) : OpR X (compareOp .Eq) (rEqD K) := h ▸ op_eqD hu
theorem neDK (hu : X.A.units + 64 < cLine) (h : X.K = K := by rfl) : OpR X (compareOp .NotEq) (rNeD K) := h ▸ op_neD hu
theorem fldK {e : Expr} {f : Str} {ta : TE} {pos : Pos} (he : PE X e ta) (hb : attributeBase e f X.env (eval e X.env) = eval e X.env) (h : X.K = K := by rfl) : PE X (.Attribute e f pos) (tFld K ta f) := h ▸ pe_fld he hb
theorem lenK (h : X.K = K := by rfl) : CallR X (.builtin "len") (fun xs H Q => ∃ p ys, xs = [.ref p] ∧ (SqL K H p ys ∨ SqT K H p ys) ∧ Q (.int ys.length) H) := h ▸ call_len_seq
theorem isiK (h : X.K = K := by rfl) : CallR X (.builtin "isinstance") (rIsi K) := h ▸ call_isi
end
/-! ### methods called in a try, by keywords -/
section
open PySem.Spec PyProof.Rows
variable {X : Cx} {CX : CXT} {k : Nat} {f C : Addr} {fd : FuncData} {ps ks : List Str} {sp : Sp} {m x : Str} {p pos apos : Pos} {e o : Expr} {es : List Expr} {kws : List Keyword} {ta : TE} {t tk : TA} {g : List Value → List Value → List Value} {gV : List V → List V → List V} {n : Nat}
def tMethSx (C : Addr) (m : Str) (sp : Sp) (E : L2.St → XK) (ta : TE) (t : TA) : TE := fun σ H Q => ta σ H fun x H1 => ∃ a dx fs, x = .ref a ∧ H1 a = some (.ins C dx fs) ∧ fs.lookup m = none ∧
  t σ H1 fun vs H2 => sp (x :: vs) H2 Q (E σ)
theorem pe_methSx {E : L2.St → XK} {pl : Sem Bool} (he : PE X o ta) (c : Cls X.K C) (hm : Meth X.K C m f) (F : FnOk X.prog X.w X.K X.mg X.base CX k f fd ps sp) (hr : Room k X.A) (hb : Binds X.K fd ps []) (hx : ∀ σ, PassesAt CX X σ (E σ)) (ha : PA X (e :: es) t)
    (hst : starEach (e :: es) X.env = (false, eval e X.env) :: starEach es X.env := by rfl) (hpl : (backTo pos (starEach es X.env)).any (·.1) = false := by rfl)
    (ht : eval (.Call (.Attribute o m apos) (e :: es) [] pos) X.env = (do
      let ov ← eval o X.env
      standAt apos.atName
      let (f, first) ← holding [ov] (getMethod ov m pl)
      callWith pos f first (backTo pos (starEach (e :: es) X.env)) (backToKw pos (keywordEach [] X.env))) := by rfl) :
    PE X (.Call (.Attribute o m apos) (e :: es) [] pos) (tMethSx C m sp E ta t) := by
  refine ⟨fun pins s σ H Q I h => ?_⟩
  refine PySem.W.methodCall_KW (pl := pl) (thn (he.run pins s σ H _ I h) fun u s1 ⟨x, H1, I1, rx, a, dx, fs, ex, ea, l, q⟩ => ?_) ht
  subst ex
  obtain rfl : u = Value.ref a := rx
  refine getmeth_ok I1 ea c hm l ?_
  refine PySem.W.callWith_K (first := [.ref a]) (h₀ := X.base) I.ok.mod.kin hm.kp (thn (ha.run pos pins s1 σ H1 _ I1 q) fun us s2 ⟨vs, H2, I2, r, q2⟩ => ⟨I2.kIn, ?_⟩) hst hpl
  exact run_fnS (us := .ref a :: us) (vs := .ref a :: vs) F hr hb (hx σ) I2 (.cons rfl r) q2
def tMethN (C : Addr) (m : Str) (j l : Nat) (sp : Sp) (gV : List V → List V → List V) (E : XK) (ta : TE) (t tk : TA) : TE := fun σ H Q => ta σ H fun x H1 => ∃ a dx fs, x = .ref a ∧ H1 a = some (.ins C dx fs) ∧ fs.lookup m = none ∧
  t σ H1 fun vs H2 => tk σ H2 fun zs H3 => vs.length = j ∧ zs.length = l ∧ sp (gV (x :: vs) zs) H3 Q E
theorem pe_methN0 {E : XK} {pl : Sem Bool} (he : PE X o ta) (c : Cls X.K C) (hm : Meth X.K C m f) (F : FnOk X.prog X.w X.K X.mg X.base CX k f fd ps sp) (hr : Room k X.A) (hb : KBn X.K fd ps 1 ks g gV) (hx : Passes CX X E) (hkw : PK X kws tk)
    (hall : (backToKw pos (keywordEach kws X.env)).all (·.1.isSome) = true := by rfl) (hks : (backToKw pos (keywordEach kws X.env)).filterMap (·.1) = ks := by rfl)
    (hpl : ((backTo pos (starEach [] X.env)).any (·.1) || (backToKw pos (keywordEach kws X.env)).any (·.1.isNone)) = false := by rfl)
    (ht : eval (.Call (.Attribute o m apos) [] kws pos) X.env = (do
      let ov ← eval o X.env
      standAt apos.atName
      let (f, first) ← holding [ov] (getMethod ov m pl)
      callWith pos f first (backTo pos (starEach [] X.env)) (backToKw pos (keywordEach kws X.env))) := by rfl) :
    PE X (.Call (.Attribute o m apos) [] kws pos) (tMethN C m 0 ks.length sp gV E ta tNil tk) := by
  refine ⟨fun pins s σ H Q I h => ?_⟩
  refine PySem.W.methodCall_KW (pl := pl) (thn (he.run pins s σ H _ I h) fun u s1 ⟨x, H1, I1, rx, a, dx, fs, ex, ea, l, q⟩ => ?_) ht
  subst ex
  obtain rfl : u = Value.ref a := rx
  refine getmeth_ok I1 ea c hm l ?_
  refine PySem.W.callWith_KW0 (first := [.ref a]) (h₀ := X.base) I.ok.mod.kin hm.kp hall ?_ hpl
  refine thn (hkw.run pos pins s1 σ H1 _ I1 q) fun ws s2 ⟨zs, H2, I2, rz, l1, l2, q2⟩ => ⟨I2.kIn, ?_⟩
  rw [hks]
  exact run_fnN (us := [.ref a]) (vs := [.ref a]) F hr hb hx I2 (.cons rfl .nil) rz rfl l2 q2
theorem pe_methN {E : XK} {pl : Sem Bool} (he : PE X o ta) (c : Cls X.K C) (hm : Meth X.K C m f) (F : FnOk X.prog X.w X.K X.mg X.base CX k f fd ps sp) (hr : Room k X.A) (hb : KBn X.K fd ps (n + 1) ks g gV) (hx : Passes CX X E) (ha : PA X (e :: es) t) (hkw : PK X kws tk)
    (hall : (backToKw pos (keywordEach kws X.env)).all (·.1.isSome) = true := by rfl) (hks : (backToKw pos (keywordEach kws X.env)).filterMap (·.1) = ks := by rfl)
    (hst : starEach (e :: es) X.env = (false, eval e X.env) :: starEach es X.env := by rfl)
    (hpl : ((backTo pos (starEach (e :: es) X.env)).any (·.1) || (backToKw pos (keywordEach kws X.env)).any (·.1.isNone)) = false := by rfl)
    (ht : eval (.Call (.Attribute o m apos) (e :: es) kws pos) X.env = (do
      let ov ← eval o X.env
      standAt apos.atName
      let (f, first) ← holding [ov] (getMethod ov m pl)
      callWith pos f first (backTo pos (starEach (e :: es) X.env)) (backToKw pos (keywordEach kws X.env))) := by rfl) :
    PE X (.Call (.Attribute o m apos) (e :: es) kws pos) (tMethN C m n ks.length sp gV E ta t tk) := by
  refine ⟨fun pins s σ H Q I h => ?_⟩
  refine PySem.W.methodCall_KW (pl := pl) (thn (he.run pins s σ H _ I h) fun u s1 ⟨x, H1, I1, rx, a, dx, fs, ex, ea, l, q⟩ => ?_) ht
  subst ex
  obtain rfl : u = Value.ref a := rx
  refine getmeth_ok I1 ea c hm l ?_
  refine PySem.W.callWith_KW (first := [.ref a]) (h₀ := X.base) I.ok.mod.kin hm.kp hall (thn (ha.run pos pins s1 σ H1 _ I1 q) fun us s2 ⟨vs, H2, I2, r, q2⟩ => ?_) hpl hst
  refine thn (hkw.run pos pins s2 σ H2 _ I2 q2) fun ws s3 ⟨zs, H3, I3, rz, l1, l2, q3⟩ => ⟨I3.kIn, ?_⟩
  rw [hks]
  exact run_fnN (us := .ref a :: us) (vs := .ref a :: vs) F hr hb hx I3 (.cons rfl r) rz (by rw [List.length_cons, l1]) l2 q3
/-- f(k = v, ..) -/
theorem pe_callN0 {E : XK} (F : FnOk X.prog X.w X.K X.mg X.base CX k f fd ps sp) (hr : Room k X.A) (hg : Gl X x) (hm : X.mg x = some (.ref f)) (hk : PySem.W.keepIn X.K (.ref f) = true) (hb : KBn X.K fd ps 0 ks g gV) (hx : Passes CX X E) (hkw : PK X kws tk)
    (hall : (backToKw pos (keywordEach kws X.env)).all (·.1.isSome) = true := by rfl) (hks : (backToKw pos (keywordEach kws X.env)).filterMap (·.1) = ks := by rfl)
    (hdb : (x == ("__debug__" : Str)) = false := by decide)
    (hpl : ((backTo pos (starEach [] X.env)).any (·.1) || (backToKw pos (keywordEach kws X.env)).any (·.1.isNone)) = false := by rfl) :
    PE X (.Call (.Name x p) [] kws pos) (tCallN 0 ks.length sp gV E tNil tk) := by
  refine ⟨fun pins s σ H Q I h => ?_⟩
  refine wpAny_Call_Name_kw (ld_glob I hg hm ?_ hdb)
  refine PySem.W.callWith_KW0 (h₀ := X.base) I.ok.mod.kin hk hall ?_ hpl
  refine thn (hkw.run pos pins s σ H _ I h) fun ws s2 ⟨zs, H2, I2, rz, l1, l2, q2⟩ => ⟨I2.kIn, ?_⟩
  rw [hks]
  exact run_fnN (us := []) (vs := []) F hr hb hx I2 .nil rz rfl l2 q2
end
section
variable {K : PySem.W.Frag} {σ : St} {H : Hp} {Q : VK} {ta : TE} {t tk : TA} {v : V}
theorem w_methSx0 {C : Addr} {m : Str} {sp : Sp} {E : St → XK} (q : ta σ H fun x H1 => ∃ a dx fs, x = .ref a ∧ H1 a = some (.ins C dx fs) ∧ fs.lookup m = none ∧ t σ H1 fun vs H2 => sp (x :: vs) H2 Q (E σ)) : tMethSx C m sp E ta t σ H Q := q
theorem w_methN0 {C : Addr} {m : Str} {j l : Nat} {sp : Sp} {gV : List V → List V → List V} {E : XK} (q : ta σ H fun x H1 => ∃ a dx fs, x = .ref a ∧ H1 a = some (.ins C dx fs) ∧ fs.lookup m = none ∧ t σ H1 fun vs H2 => tk σ H2 fun zs H3 => vs.length = j ∧ zs.length = l ∧ sp (gV (x :: vs) zs) H3 Q E) : tMethN C m j l sp gV E ta t tk σ H Q := q
theorem w_callN {j l : Nat} {sp : Sp} {gV : List V → List V → List V} {E : XK} (q : t σ H fun vs H1 => tk σ H1 fun zs H2 => vs.length = j ∧ zs.length = l ∧ sp (gV vs zs) H2 Q E) : tCallN j l sp gV E t tk σ H Q := q
theorem w_callS {sp : Sp} {E : St → XK} (q : t σ H fun vs H1 => sp vs H1 Q (E σ)) : tCallS sp E t σ H Q := q
theorem w_rfl {α : Type} {x : α} {R : Prop} (q : R) : x = x ∧ R := ⟨rfl, q⟩
theorem w_ea {σ2 : L2.St} {vs : List Nat} {R : Prop} (h : wipe σ2 vs = wipe σ vs) (q : R) : wipe σ2 vs = wipe σ vs ∧ R := ⟨h, q⟩
theorem w_ln {α : Type} {xs : List α} {n : Nat} {R : Prop} (h : xs.length = n) (q : R) : xs.length = n ∧ R := ⟨h, q⟩
theorem w_yes {Q : Bool → Hp → Prop} (q : Q true H) : tYes σ H Q := q
end
theorem iteNT {A B : Prop} (h : B) : if (!true) = true then A else B := h
theorem iteNF {A B : Prop} (h : A) : if (!false) = true then A else B := h
/-! ### comprehensions without tests: each item gives a known value -/
section
variable {K : PySem.W.Frag} {σ : L2.St} {H : Hp} {Q : VK} {g : TG} {te tl : TE} {l : Addr} {xs ys : List V} {vs : List Nat}
theorem w_lc0L (q : tl σ H fun x H1 => ∃ a, x = .ref a ∧ (∃ xs, SqL K H1 a xs) ∧ ∀ D, H1 D = none → ∃ W : Nat → Nat → Hp → Prop, (∃ m, W 0 m (upd H1 D (.lst []))) ∧ ∀ i m H, W i m H →
      ((Itl K a).stop i H ∧ Q (.ref D) H) ∨ ((Itl K a).go i H ∧ ∃ Nx : Hp → Prop, (∀ H', Nx H' → ∃ m', m' < m ∧ W (i + 1) m' H') ∧ ∀ x H', (Itl K a).yld i H x H' → g x (wipe σ vs) H' fun σ2 H2 => wipe σ2 vs = wipe σ vs ∧ tYes σ2 H2 fun b H3 =>
        if b = true then te σ2 H3 fun y H4 => ∃ acc, H4 D = some (.lst acc) ∧ acc.length < sizeLine ∧ Nx (upd H4 D (.lst (acc ++ [y]))) else Nx H3)) : tLc (iList K tl) g tYes te vs σ H Q := q
theorem w_lc0T (q : tl σ H fun x H1 => ∃ a, x = .ref a ∧ (∃ xs, SqT K H1 a xs) ∧ ∀ D, H1 D = none → ∃ W : Nat → Nat → Hp → Prop, (∃ m, W 0 m (upd H1 D (.lst []))) ∧ ∀ i m H, W i m H →
      ((Itt K a).stop i H ∧ Q (.ref D) H) ∨ ((Itt K a).go i H ∧ ∃ Nx : Hp → Prop, (∀ H', Nx H' → ∃ m', m' < m ∧ W (i + 1) m' H') ∧ ∀ x H', (Itt K a).yld i H x H' → g x (wipe σ vs) H' fun σ2 H2 => wipe σ2 vs = wipe σ vs ∧ tYes σ2 H2 fun b H3 =>
        if b = true then te σ2 H3 fun y H4 => ∃ acc, H4 D = some (.lst acc) ∧ acc.length < sizeLine ∧ Nx (upd H4 D (.lst (acc ++ [y]))) else Nx H3)) : tLc (iTup K tl) g tYes te vs σ H Q := q
theorem lc_inv {f : Nat → V} {D : Addr} {H' : Hp} {i : Nat} (nD : H D = none) (s : Same H H') (hD : H' D = some (.lst ((List.range i).map f))) (v : V) (hv : v = f i) :
    Same H (upd H' D (.lst (((List.range i).map f) ++ [v]))) ∧ (upd H' D (.lst (((List.range i).map f) ++ [v]))) D = some (.lst ((List.range (i + 1)).map f)) := by
  refine ⟨same_updF s nD, ?_⟩
  rw [upd_same, List.range_succ, List.map_append, hv]
  rfl
/-- the i-th item gives f i; nothing that stood is changed -/
theorem w_lcL (f : Nat → V) (h : SqL K H l xs) (hz : xs.length ≤ 100000)
    (step : ∀ (i : Nat) (x : V) (H' : Hp) (R : VK) (S : Hp → Prop), xs[i]? = some x → Same H H' → (∀ H4, Same H' H4 → R (f i) H4) → g x (wipe σ vs) H' fun σ2 H2 => wipe σ2 vs = wipe σ vs ∧ tYes σ2 H2 fun b H3 => if b = true then te σ2 H3 R else S H3)
    (q : ∀ D H', Same H H' → H D = none → H' D = some (.lst ((List.range xs.length).map f)) → Q (.ref D) H') : ∃ a, V.ref l = .ref a ∧ (∃ xs, SqL K H a xs) ∧ ∀ D, H D = none → ∃ W : Nat → Nat → Hp → Prop, (∃ m, W 0 m (upd H D (.lst []))) ∧ ∀ i m H, W i m H →
      ((Itl K a).stop i H ∧ Q (.ref D) H) ∨ ((Itl K a).go i H ∧ ∃ Nx : Hp → Prop, (∀ H', Nx H' → ∃ m', m' < m ∧ W (i + 1) m' H') ∧ ∀ x H', (Itl K a).yld i H x H' → g x (wipe σ vs) H' fun σ2 H2 => wipe σ2 vs = wipe σ vs ∧ tYes σ2 H2 fun b H3 =>
        if b = true then te σ2 H3 fun y H4 => ∃ acc, H4 D = some (.lst acc) ∧ acc.length < sizeLine ∧ Nx (upd H4 D (.lst (acc ++ [y]))) else Nx H3) := by
  refine ⟨l, rfl, ⟨xs, h⟩, fun D nD => ?_⟩
  refine lc_list (K := K) (a := l) (xs := xs) (fun i H' => i ≤ xs.length ∧ Same H H' ∧ H' D = some (.lst ((List.range i).map f))) ⟨Nat.zero_le _, same_new nD, upd_same⟩ (fun i H' _ p => p.2.1.seq h) (fun i x H' hx p => ?_) (fun H' p => q D H' p.2.1 nD p.2.2)
  have hi : i < xs.length := (List.getElem?_eq_some_iff.mp hx).1
  refine step i x H' _ _ hx p.2.1 fun H4 s4 => ?_
  have hD4 := s4 _ _ p.2.2
  refine ⟨_, hD4, ?_, hi, lc_inv nD (p.2.1.trans s4) hD4 _ rfl⟩
  rw [List.length_map, List.length_range]
  exact Nat.lt_of_lt_of_le (Nat.lt_of_lt_of_le hi hz) (by decide)
theorem w_lcT (f : Nat → V) (h : SqT K H l xs) (hz : xs.length ≤ 100000) (hs : ∀ H', Same H H' → SqT K H' l xs)
    (step : ∀ (i : Nat) (x : V) (H' : Hp) (R : VK) (S : Hp → Prop), xs[i]? = some x → Same H H' → (∀ H4, Same H' H4 → R (f i) H4) → g x (wipe σ vs) H' fun σ2 H2 => wipe σ2 vs = wipe σ vs ∧ tYes σ2 H2 fun b H3 => if b = true then te σ2 H3 R else S H3)
    (q : ∀ D H', Same H H' → H D = none → H' D = some (.lst ((List.range xs.length).map f)) → Q (.ref D) H') : ∃ a, V.ref l = .ref a ∧ (∃ xs, SqT K H a xs) ∧ ∀ D, H D = none → ∃ W : Nat → Nat → Hp → Prop, (∃ m, W 0 m (upd H D (.lst []))) ∧ ∀ i m H, W i m H →
      ((Itt K a).stop i H ∧ Q (.ref D) H) ∨ ((Itt K a).go i H ∧ ∃ Nx : Hp → Prop, (∀ H', Nx H' → ∃ m', m' < m ∧ W (i + 1) m' H') ∧ ∀ x H', (Itt K a).yld i H x H' → g x (wipe σ vs) H' fun σ2 H2 => wipe σ2 vs = wipe σ vs ∧ tYes σ2 H2 fun b H3 =>
        if b = true then te σ2 H3 fun y H4 => ∃ acc, H4 D = some (.lst acc) ∧ acc.length < sizeLine ∧ Nx (upd H4 D (.lst (acc ++ [y]))) else Nx H3) := by
  refine ⟨l, rfl, ⟨xs, h⟩, fun D nD => ?_⟩
  refine lc_tup (K := K) (a := l) (xs := xs) (fun i H' => i ≤ xs.length ∧ Same H H' ∧ H' D = some (.lst ((List.range i).map f))) ⟨Nat.zero_le _, same_new nD, upd_same⟩ (fun i H' _ p => hs _ p.2.1) (fun i x H' hx p => ?_) (fun H' p => q D H' p.2.1 nD p.2.2)
  have hi : i < xs.length := (List.getElem?_eq_some_iff.mp hx).1
  refine step i x H' _ _ hx p.2.1 fun H4 s4 => ?_
  have hD4 := s4 _ _ p.2.2
  refine ⟨_, hD4, ?_, hi, lc_inv nD (p.2.1.trans s4) hD4 _ rfl⟩
  rw [List.length_map, List.length_range]
  exact Nat.lt_of_lt_of_le (Nat.lt_of_lt_of_le hi hz) (by decide)
theorem lc_L (f : Nat → V) (htl : ∀ R : VK, R (.ref l) H → tl σ H R) (h : SqL K H l xs) (hz : xs.length ≤ 100000)
    (step : ∀ (i : Nat) (x : V) (H' : Hp) (R : VK) (S : Hp → Prop), xs[i]? = some x → Same H H' → (∀ H4, Same H' H4 → R (f i) H4) → g x (wipe σ vs) H' fun σ2 H2 => wipe σ2 vs = wipe σ vs ∧ tYes σ2 H2 fun b H3 => if b = true then te σ2 H3 R else S H3)
    (q : ∀ D H', Same H H' → H D = none → H' D = some (.lst ((List.range xs.length).map f)) → Q (.ref D) H') : tLc (iList K tl) g tYes te vs σ H Q := w_lc0L (htl _ (w_lcL f h hz step q))
theorem lc_T (f : Nat → V) (htl : ∀ R : VK, R (.ref l) H → tl σ H R) (h : SqT K H l xs) (hz : xs.length ≤ 100000) (hs : ∀ H', Same H H' → SqT K H' l xs)
    (step : ∀ (i : Nat) (x : V) (H' : Hp) (R : VK) (S : Hp → Prop), xs[i]? = some x → Same H H' → (∀ H4, Same H' H4 → R (f i) H4) → g x (wipe σ vs) H' fun σ2 H2 => wipe σ2 vs = wipe σ vs ∧ tYes σ2 H2 fun b H3 => if b = true then te σ2 H3 R else S H3)
    (q : ∀ D H', Same H H' → H D = none → H' D = some (.lst ((List.range xs.length).map f)) → Q (.ref D) H') : tLc (iTup K tl) g tYes te vs σ H Q := w_lc0T (htl _ (w_lcT f h hz hs step q))
theorem same_seqT {H H' : Hp} {a : Addr} {xs : List V} (e : Same H H') (h : SqT K H a xs) : SqT K H' a xs := by
  rcases h with (h | ⟨o, h⟩) | h
  · exact .inl (.inl (e _ _ h))
  · exact .inl (.inr ⟨o, e _ _ h⟩)
  · exact .inr h
end
theorem w_allTrue {K : PySem.W.Frag} {H : Hp} {Q : VK} {D : Addr} {n : Nat} (h : H D = some (.lst ((List.range n).map fun _ => V.bl true))) (q : Q (.bl true) H) : rAll K [.ref D] H Q := by
  refine ⟨D, (List.range n).map fun _ => true, rfl, SqL.of (by rw [List.map_map]; exact h), ?_⟩
  have e : ((List.range n).map fun _ => true).all id = true := by simp
  rw [e]
  exact q
/-! ### refusals -/
def spCore (K : PySem.W.Frag) : Sp := fun vs H Q _ => ∃ (x C : Addr) (v : V), vs = [.ref x, v] ∧ OexC K C ∧ PySem.W.findIn K (.ref C) "value" = some none ∧ H x = some (exo x C none) ∧
  ∀ dx, H dx = none → dx ≠ x → Q .non (upd (upd H dx (exd dx [("value", v)])) x (exo x C (some dx)))
theorem w_mko0 {C : Addr} {sp : Sp} {dvs : List V} {ta : TA} {σ : St} {H : Hp} {Q : XK} (q : ta σ H fun vs H1 => vs.length ≤ 1000 ∧ ∀ a, H1 a = none → sp (.ref a :: (vs ++ dvs)) (upd H1 a (exo a C none))
  (fun v H2 => v = .non ∧ ∃ (d : Addr) (fs : List (Str × V)), H2 a = some (exo a C (some d)) ∧ H2 d = some (exd d fs) ∧ H1 d = none ∧ Q (.ref C) (some d) (upd (del H2 a) d (.xd fs))) (fun _ _ _ => False)) : tMkO C sp dvs ta σ H Q := q
theorem w_core {K : PySem.W.Frag} {C : Addr} {v : V} {H : Hp} {Q : XK} (hC : OexC K C) (hn : PySem.W.findIn K (.ref C) "value" = some none)
    (q : ∀ d H', Same H H' → H d = none → H' d = some (.xd [("value", v)]) → Q (.ref C) (some d) H') :
    [v].length ≤ 1000 ∧ ∀ a, H a = none → spCore K (.ref a :: ([v] ++ [])) (upd H a (exo a C none))
      (fun v H2 => v = .non ∧ ∃ (d : Addr) (fs : List (Str × V)), H2 a = some (exo a C (some d)) ∧ H2 d = some (exd d fs) ∧ H d = none ∧ Q (.ref C) (some d) (upd (del H2 a) d (.xd fs))) (fun _ _ _ => False) := by
  refine ⟨by show 1 ≤ 1000; decide, fun x nx => ⟨x, C, v, rfl, hC, hn, upd_same, fun dx ndx hne => ⟨rfl, dx, _, upd_same, (upd_ne hne).trans upd_same, ?_, q dx _ ?_ ?_ upd_same⟩⟩⟩
  · rw [upd_ne hne] at ndx
    exact ndx
  · intro b o e
    have hb : b ≠ x := ne_of_none e nx
    have hd : b ≠ dx := by
      intro z
      rw [z] at e
      rw [upd_ne hne, e] at ndx
      cases ndx
    rw [upd_ne hd, del_ne hb, upd_ne hb, upd_ne hd, upd_ne hb]
    exact e
  · rw [upd_ne hne] at ndx
    exact ndx
theorem map_get {ns : List Int} {i : Nat} {x : V} (h : (ns.map V.int)[i]? = some x) : ∃ n, n ∈ ns ∧ x = .int n := by
  rw [List.getElem?_map] at h
  cases e : ns[i]? with
  | none => rw [e] at h; cases h
  | some n =>
    rw [e] at h
    exact ⟨n, List.mem_of_getElem? e, (Option.some.inj h).symm⟩
/-! ### loops -/
section
variable {K : PySem.W.Frag} {σ : L2.St} {H : Hp} {g : TG} {tb : TS} {nx bk ct : L2.St → Hp → Prop} {rt : VK} {ta : TA} {tl : TE}
def kR1 (g : TG) (tb : TS) (D : Ends) (σ : L2.St) (vs : List V) (H : Hp) : Prop := ∃ j : Int, vs = [.int j] ∧ -(2 ^ 62) ≤ j ∧ j < 2 ^ 62 ∧ ∃ W : Nat → Nat → L2.St → Hp → Prop, (∃ m, W 0 m σ H) ∧ ∀ i m σ H, W i m σ H →
  ((Itr 0 j.toNat).stop i H ∧ D.nx σ H) ∨ ((Itr 0 j.toNat).go i H ∧ ∃ N : L2.St → Hp → Prop, (∀ σ' H', N σ' H' → ∃ m', m' < m ∧ W (i + 1) m' σ' H') ∧ ∀ x H', (Itr 0 j.toNat).yld i H x H' → g x σ H' fun σ2 H2 => tb { D with nx := N, ct := N, bk := D.nx } σ2 H2)
theorem w_forR1 (q : ta σ H fun vs H1 => kR1 g tb ⟨nx, rt, bk, ct⟩ σ vs H1) : tFor (iRng1 ta) g tb ⟨nx, rt, bk, ct⟩ σ H := q
theorem w_range1 {j : Int} (Pv : Nat → L2.St → Hp → Prop) (hj : -100000000 ≤ j ∧ j < 100000000) (h0 : Pv 0 σ H)
    (hs : ∀ (i : Nat) σ' H', (i : Int) < j → Pv i σ' H' → g (.int i) σ' H' fun σ2 H2 => tb ⟨Pv (i + 1), rt, nx, Pv (i + 1)⟩ σ2 H2) (hd : ∀ σ' H', Pv j.toNat σ' H' → nx σ' H') : kR1 g tb ⟨nx, rt, bk, ct⟩ σ [.int j] H := by
  refine ⟨j, rfl, by omega, by omega, for_range (lo := 0) (n := j.toNat) (D := ⟨nx, rt, bk, ct⟩) Pv h0 (fun i σ' H' hi p => ?_) hd⟩
  have e : (0 : Int) + (i : Int) = i := by omega
  rw [e]
  exact hs i σ' H' (by omega) p
def kFL (K : PySem.W.Frag) (g : TG) (tb : TS) (D : Ends) (σ : L2.St) (x : V) (H : Hp) : Prop := ∃ a, x = .ref a ∧ (∃ xs, SqL K H a xs) ∧ ∃ W : Nat → Nat → L2.St → Hp → Prop, (∃ m, W 0 m σ H) ∧ ∀ i m σ H, W i m σ H →
  ((Itl K a).stop i H ∧ D.nx σ H) ∨ ((Itl K a).go i H ∧ ∃ N : L2.St → Hp → Prop, (∀ σ' H', N σ' H' → ∃ m', m' < m ∧ W (i + 1) m' σ' H') ∧ ∀ x H', (Itl K a).yld i H x H' → g x σ H' fun σ2 H2 => tb { D with nx := N, ct := N, bk := D.nx } σ2 H2)
theorem w_forL (q : tl σ H fun x H1 => kFL K g tb ⟨nx, rt, bk, ct⟩ σ x H1) : tFor (iList K tl) g tb ⟨nx, rt, bk, ct⟩ σ H := q
theorem w_list {a : Addr} {xs : List V} (Pv : Nat → L2.St → Hp → Prop) (h : SqL K H a xs) (h0 : Pv 0 σ H) (hl : ∀ i σ' H', i ≤ xs.length → Pv i σ' H' → SqL K H' a xs)
    (hs : ∀ (i : Nat) x σ' H', xs[i]? = some x → Pv i σ' H' → g x σ' H' fun σ2 H2 => tb ⟨Pv (i + 1), rt, nx, Pv (i + 1)⟩ σ2 H2) (hd : ∀ σ' H', Pv xs.length σ' H' → nx σ' H') : kFL K g tb ⟨nx, rt, bk, ct⟩ σ (.ref a) H :=
  ⟨a, rfl, ⟨xs, h⟩, for_list (D := ⟨nx, rt, bk, ct⟩) Pv h0 hl hs hd⟩
def kFT (K : PySem.W.Frag) (g : TG) (tb : TS) (D : Ends) (σ : L2.St) (x : V) (H : Hp) : Prop := ∃ a, x = .ref a ∧ (∃ xs, SqT K H a xs) ∧ ∃ W : Nat → Nat → L2.St → Hp → Prop, (∃ m, W 0 m σ H) ∧ ∀ i m σ H, W i m σ H →
  ((Itt K a).stop i H ∧ D.nx σ H) ∨ ((Itt K a).go i H ∧ ∃ N : L2.St → Hp → Prop, (∀ σ' H', N σ' H' → ∃ m', m' < m ∧ W (i + 1) m' σ' H') ∧ ∀ x H', (Itt K a).yld i H x H' → g x σ H' fun σ2 H2 => tb { D with nx := N, ct := N, bk := D.nx } σ2 H2)
theorem w_forT (q : tl σ H fun x H1 => kFT K g tb ⟨nx, rt, bk, ct⟩ σ x H1) : tFor (iTup K tl) g tb ⟨nx, rt, bk, ct⟩ σ H := q
theorem w_tupl {a : Addr} {xs : List V} (Pv : Nat → L2.St → Hp → Prop) (h : SqT K H a xs) (h0 : Pv 0 σ H) (hl : ∀ i σ' H', i ≤ xs.length → Pv i σ' H' → SqT K H' a xs)
    (hs : ∀ (i : Nat) x σ' H', xs[i]? = some x → Pv i σ' H' → g x σ' H' fun σ2 H2 => tb ⟨Pv (i + 1), rt, nx, Pv (i + 1)⟩ σ2 H2) (hd : ∀ σ' H', Pv xs.length σ' H' → nx σ' H') : kFT K g tb ⟨nx, rt, bk, ct⟩ σ (.ref a) H :=
  ⟨a, rfl, ⟨xs, h⟩, for_tup (D := ⟨nx, rt, bk, ct⟩) Pv h0 hl hs hd⟩
/-- a comprehension by an invariant over its turns -/
theorem lcI_L {Q : VK} {te : TE} {l : Addr} {xs : List V} {vs : List Nat} (Pv : Addr → Nat → Hp → Prop) (htl : ∀ R : VK, R (.ref l) H → tl σ H R) (h : SqL K H l xs) (h0 : ∀ D, H D = none → Pv D 0 (upd H D (.lst []))) (hl : ∀ D i H', i ≤ xs.length → Pv D i H' → SqL K H' l xs)
    (step : ∀ D (i : Nat) (x : V) (H' : Hp) (R : VK) (S : Hp → Prop), H D = none → xs[i]? = some x → Pv D i H' → (∀ y H4 acc, H4 D = some (.lst acc) → acc.length ≤ 100000 → Pv D (i + 1) (upd H4 D (.lst (acc ++ [y]))) → R y H4) → g x (wipe σ vs) H' fun σ2 H2 => wipe σ2 vs = wipe σ vs ∧ tYes σ2 H2 fun b H3 => if b = true then te σ2 H3 R else S H3)
    (q : ∀ D H', H D = none → Pv D xs.length H' → Q (.ref D) H') : tLc (iList K tl) g tYes te vs σ H Q := by
  refine w_lc0L (htl _ ⟨l, rfl, ⟨xs, h⟩, fun D nD => ?_⟩)
  refine lc_list (K := K) (a := l) (xs := xs) (fun i H' => Pv D i H') (h0 D nD) (fun i H' hi p => hl D i H' hi p) (fun i x H' hx p => ?_) (fun H' p => q D H' nD p)
  exact step D i x H' _ _ nD hx p fun y H4 acc e z p4 => ⟨acc, e, Nat.lt_of_le_of_lt z (by decide), p4⟩
end
section
variable {K : PySem.W.Frag} {σ : L2.St} {H H' G : Hp} {Q : VK} {to : TE} {t : TA} {p q x : Addr}
theorem w_bm {T : String} {r : V → List V → Hp → VK → Prop} (h : to σ H fun x H1 => tyV K T x H1 ∧ t σ H1 fun xs H2 => r x xs H2 Q) : tBM K T r to t σ H Q := h
theorem w_bm0 {T : String} {r : V → List V → Hp → VK → Prop} (h : to σ H fun x H1 => tyV K T x H1 ∧ r x [] H1 Q) : tBM0 K T r to σ H Q := h
theorem w_tyL {a : Addr} {xs : List V} {R : Prop} (h : SqL K H a xs) (q : R) : tyV K "list" (.ref a) H ∧ R := ⟨.inl ⟨rfl, xs, h⟩, q⟩
theorem w_app {l : Addr} {xs : List V} {y : V} (h : H l = some (.lst xs)) (hz : xs.length ≤ 100000) (q : Q .non (upd H l (.lst (xs ++ [y])))) : rAppend (.ref l) [y] H Q := ⟨l, xs, y, rfl, rfl, h, Nat.lt_of_le_of_lt hz (by decide), q⟩
theorem w_cat {l b : Addr} {xs zs : List V} (h1 : H l = some (.lst xs)) (h2 : H b = some (.lst zs)) (hz : xs.length + zs.length ≤ 100000) (q : ∀ p, H p = none → Q (.ref p) (upd H p (.lst (xs ++ zs)))) : rCat (.ref l) (.ref b) H Q := ⟨l, b, xs, zs, rfl, rfl, h1, h2, Nat.le_trans hz (by decide), q⟩
theorem ixN_of {n : Nat} {d : Int} (h0 : 0 ≤ d) (h1 : d < n) : ixN n d = some d.toNat := by
  unfold ixN
  rw [if_pos h0, if_pos h1]
theorem nodup_ne {α : Type} {l : List α} (nd : l.Nodup) {i j : Nat} {a b : α} (hi : l[i]? = some a) (hj : l[j]? = some b) (h : i ≠ j) : a ≠ b := by
  obtain ⟨h1, rfl⟩ := List.getElem?_eq_some_iff.mp hi
  obtain ⟨h2, rfl⟩ := List.getElem?_eq_some_iff.mp hj
  have z := List.pairwise_iff_getElem.mp nd
  rcases Nat.lt_or_gt_of_ne h with q | q
  · exact z i j h1 h2 q
  · exact (z j i h2 h1 q).symm
/-- G: what is never changed; it stays through a change at p, if p is none of it -/
theorem sub_chg (s : Same G H) (n : G p = none) (c : Chg p H H') : Same G H' := fun b o e => c b o (s b o e) (ne_of_none e n)
theorem sub_upd {o : HO} (s : Same G H) (n : G p = none) : Same G (upd H p o) := fun b u e => by
  rw [upd_ne (ne_of_none e n)]
  exact s b u e
/-- G grows by what stands in H -/
theorem sub_grow {o : HO} (s : Same G H) (h : H p = some o) : Same (upd G p o) H := fun b u e => by
  by_cases z : b = p
  · subst z
    rw [upd_same] at e
    rw [← e]
    exact h
  · rw [upd_ne z] at e
    exact s b u e
theorem same_grow {o : HO} (n : G p = none) : Same G (upd G p o) := same_new n
theorem none_upd {o : HO} (h : G q = none) (n : q ≠ p) : upd G p o q = none := by rw [upd_ne n]; exact h
/-- G: H without the places of bs -/
def cutH (H : Hp) (bs : List Addr) : Hp := fun b => if b ∈ bs then none else H b
theorem cut_none {bs : List Addr} (h : p ∈ bs) : cutH H bs p = none := if_pos h
theorem cut_some {bs : List Addr} (h : p ∉ bs) : cutH H bs p = H p := if_neg h
theorem cut_same {bs : List Addr} : Same (cutH H bs) H := fun b o e => by
  by_cases h : b ∈ bs
  · rw [cut_none h] at e; cases e
  · rw [cut_some h] at e; exact e
end
section
variable {K : PySem.W.Frag} {σ : L2.St} {H : Hp} {Q : VK} {ta tb tc te : TE} {tl th : TO} {xs : List V}
theorem w_slT {a : Addr} {lo hi : Option Int} (h : SqT K H a xs) (hw : ¬ (HT.sIx xs.length 0 lo = 0 ∧ HT.sIx xs.length xs.length hi = xs.length)) (q : ∀ p, H p = none → Q (.ref p) (upd H p (.tup (cutV xs lo hi)))) : rSlT K (.ref a) lo hi H Q := ⟨a, xs, rfl, h, hw, q⟩
theorem w_inL {neg : Bool} {a : Addr} {x : V} (h : SqL K H a xs) (h1 : flatV x = true) (h2 : xs.all flatV = true) (q : Q (.bl (if neg then !inV x xs else inV x xs)) H) : rIn K neg x (.ref a) H Q := ⟨a, xs, rfl, .inl h, h1, h2, q⟩
theorem w_inT {neg : Bool} {a : Addr} {x : V} (h : SqT K H a xs) (h1 : flatV x = true) (h2 : xs.all flatV = true) (q : Q (.bl (if neg then !inV x xs else inV x xs)) H) : rIn K neg x (.ref a) H Q := ⟨a, xs, rfl, .inr h, h1, h2, q⟩
theorem w_chain {r r' : R2} (q : ta σ H fun x H1 => tb σ H1 fun y H2 => r x y H2 fun z H3 => ∃ k, z = .bl k ∧ (if k = true then tc σ H3 fun w' H4 => r' y w' H4 Q else Q (.bl false) H3)) : tChain r r' ta tb tc σ H Q := q
theorem w_sl {r : V → Option Int → Option Int → Hp → VK → Prop} (q : te σ H fun x H1 => tl σ H1 fun l H2 => th σ H2 fun u H3 => r x l u H3 Q) : tSl r te tl th σ H Q := q
theorem w_nopart {Q : Option Int → Hp → Prop} (q : Q none H) : tNoPart σ H Q := q
theorem w_part {Q : Option Int → Hp → Prop} (q : te σ H fun x H1 => ∃ i, x = .int i ∧ Q (some i) H1) : tPart te σ H Q := q
theorem w_ei {i : Int} {R : Int → Prop} (q : R i) : ∃ k, V.int i = .int k ∧ R k := ⟨i, rfl, q⟩
theorem w_slL {a : Addr} {lo hi : Option Int} (h : SqL K H a xs) (q : ∀ p, H p = none → Q (.ref p) (upd H p (.lst (cutV xs lo hi)))) : rSlL K (.ref a) lo hi H Q := ⟨a, xs, rfl, h, q⟩
def kRev (K : PySem.W.Frag) (Q : VK) (x : V) (H : Hp) : Prop := ∃ a xs, x = .ref a ∧ SqL K H a xs ∧ ∀ p, H p = none → Q (.ref p) (upd H p (.lst xs.reverse))
theorem w_rev0 (q : te σ H fun x H1 => kRev K Q x H1) : tRevL K te σ H Q := q
theorem w_rev {a : Addr} (h : SqL K H a xs) (q : ∀ p, H p = none → Q (.ref p) (upd H p (.lst xs.reverse))) : kRev K Q (.ref a) H := ⟨a, xs, rfl, h, q⟩
theorem w_rep {a : Addr} {k : Int} (h : H a = some (.lst xs)) (h1 : -100000 ≤ k) (h2 : k ≤ 100000) (hz : xs.length ≤ 100) (q : ∀ p, H p = none → Q (.ref p) (upd H p (.lst (List.replicate k.toNat xs).flatten))) : rRep (.ref a) (.int k) H Q :=
  ⟨a, k, xs, rfl, rfl, h, by omega, by omega, by
    have e : xs.length * k.toNat ≤ 100 * 100000 := Nat.mul_le_mul hz (by omega)
    exact Nat.le_trans e (by decide), q⟩
theorem sIx_int (n d : Nat) (i : Int) (h : 0 ≤ i) : HT.sIx n d (some i) = min i.toNat n := by
  obtain ⟨k, rfl⟩ : ∃ k : Nat, i = (k : Int) := ⟨i.toNat, by omega⟩
  rw [HT.sIx_nat]
  simp
theorem cut_to {j : Int} (h : 0 ≤ j) : cutV xs none (some j) = xs.take j.toNat := by
  unfold cutV
  rw [HT.sIx_none, sIx_int _ _ _ h]
  by_cases q : j.toNat ≤ xs.length
  · rw [Nat.min_eq_left q]; simp
  · rw [Nat.min_eq_right (by omega), List.take_of_length_le (by omega : xs.length ≤ j.toNat)]; simp
theorem cut_from {i : Int} (h : 0 ≤ i) : cutV xs (some i) none = xs.drop i.toNat := by
  unfold cutV
  rw [HT.sIx_none, sIx_int _ _ _ h]
  by_cases q : i.toNat ≤ xs.length
  · rw [Nat.min_eq_left q, List.take_of_length_le (by rw [List.length_drop]; omega)]
  · rw [Nat.min_eq_right (by omega)]
    simp [List.drop_eq_nil_of_le (by omega : xs.length ≤ i.toNat)]
theorem cut_mid {i j : Int} (h : 0 ≤ i) (hj : i ≤ j) : cutV xs (some i) (some j) = (xs.drop i.toNat).take (j.toNat - i.toNat) := by
  unfold cutV
  rw [sIx_int _ _ _ h, sIx_int _ _ _ (by omega)]
  by_cases q : i.toNat ≤ xs.length
  · rw [Nat.min_eq_left q]
    by_cases q2 : j.toNat ≤ xs.length
    · rw [Nat.min_eq_left q2]
    · rw [Nat.min_eq_right (by omega), List.take_of_length_le (by rw [List.length_drop]; omega), List.take_of_length_le (by rw [List.length_drop]; omega)]
  · rw [Nat.min_eq_right (by omega)]
    simp [List.drop_eq_nil_of_le (by omega : xs.length ≤ i.toNat)]
    exact .inr (by omega)
end
/-! ### comprehensions over a list of things, with tests: what is kept of each is known -/
theorem map_at {α : Type} {es : List α} {it : α → V} {i : Nat} {x : V} (h : (es.map it)[i]? = some x) : ∃ e, es[i]? = some e ∧ e ∈ es ∧ x = it e := by
  rw [List.getElem?_map] at h
  cases q : es[i]? with
  | none => rw [q] at h; cases h
  | some e =>
    rw [q] at h
    exact ⟨e, rfl, List.mem_of_getElem? q, (Option.some.inj h).symm⟩
section
variable {K : PySem.W.Frag} {σ : L2.St} {H : Hp} {Q : VK} {g : TG} {tt : TT} {te tl : TE} {l : Addr} {vs : List Nat}
theorem lcF_inv {α : Type} (es : List α) (it : α → V) (kp : α → Option V) (htl : ∀ R : VK, R (.ref l) H → tl σ H R) (h : SqL K H l (es.map it)) (hz : es.length ≤ 100000)
    (step : ∀ e, e ∈ es → ∀ (H' : Hp) (R : VK) (S : Hp → Prop), Same H H' → (∀ y, kp e = some y → ∀ H4, Same H' H4 → R y H4) → (kp e = none → ∀ H4, Same H' H4 → S H4) → g (it e) (wipe σ vs) H' fun σ2 H2 => wipe σ2 vs = wipe σ vs ∧ tt σ2 H2 fun b H3 => if b = true then te σ2 H3 R else S H3)
    (q : ∀ D H', Same H H' → H D = none → H' D = some (.lst (es.filterMap kp)) → Q (.ref D) H') : tLc (iList K tl) g tt te vs σ H Q := by
  refine htl _ ⟨l, rfl, ⟨_, h⟩, fun D nD => ?_⟩
  refine lc_list (K := K) (a := l) (xs := es.map it) (fun i H' => i ≤ es.length ∧ Same H H' ∧ H' D = some (.lst ((es.take i).filterMap kp))) ⟨Nat.zero_le _, same_new nD, upd_same⟩ (fun i H' _ p => p.2.1.seq h) (fun i x H' hx p => ?_) (fun H' p => q D H' p.2.1 nD (by
    have e := p.2.2
    rw [List.length_map, List.take_length] at e
    exact e))
  obtain ⟨e, he, hin, rfl⟩ := map_at hx
  have hi : i < es.length := (List.getElem?_eq_some_iff.mp he).1
  have et : es.take (i + 1) = es.take i ++ [e] := by rw [List.take_succ, he]; rfl
  have lz : ((es.take i).filterMap kp).length < sizeLine := by
    refine Nat.lt_of_le_of_lt (List.length_filterMap_le _ _) (Nat.lt_of_le_of_lt ?_ (by decide : 100000 < sizeLine))
    rw [List.length_take]
    omega
  refine step e hin H' _ _ p.2.1 (fun y hy H4 s4 => ⟨_, s4 _ _ p.2.2, lz, hi, same_updF (p.2.1.trans s4) nD, ?_⟩) fun hn H4 s4 => ⟨hi, p.2.1.trans s4, ?_⟩
  · rw [upd_same, et, List.filterMap_append]
    simp [hy]
  · rw [et, List.filterMap_append, s4 _ _ p.2.2]
    simp [hn]
theorem lcF_tup {α : Type} (es : List α) (it : α → V) (kp : α → Option V) (htl : ∀ R : VK, R (.ref l) H → tl σ H R) (h : SqT K H l (es.map it)) (hz : es.length ≤ 100000)
    (step : ∀ e, e ∈ es → ∀ (H' : Hp) (R : VK) (S : Hp → Prop), Same H H' → (∀ y, kp e = some y → ∀ H4, Same H' H4 → R y H4) → (kp e = none → ∀ H4, Same H' H4 → S H4) → g (it e) (wipe σ vs) H' fun σ2 H2 => wipe σ2 vs = wipe σ vs ∧ tt σ2 H2 fun b H3 => if b = true then te σ2 H3 R else S H3)
    (q : ∀ D H', Same H H' → H D = none → H' D = some (.lst (es.filterMap kp)) → Q (.ref D) H') : tLc (iTup K tl) g tt te vs σ H Q := by
  refine htl _ ⟨l, rfl, ⟨_, h⟩, fun D nD => ?_⟩
  refine lc_tup (K := K) (a := l) (xs := es.map it) (fun i H' => i ≤ es.length ∧ Same H H' ∧ H' D = some (.lst ((es.take i).filterMap kp))) ⟨Nat.zero_le _, same_new nD, upd_same⟩ (fun i H' _ p => same_seqT p.2.1 h) (fun i x H' hx p => ?_) (fun H' p => q D H' p.2.1 nD (by
    have e := p.2.2
    rw [List.length_map, List.take_length] at e
    exact e))
  obtain ⟨e, he, hin, rfl⟩ := map_at hx
  have hi : i < es.length := (List.getElem?_eq_some_iff.mp he).1
  have et : es.take (i + 1) = es.take i ++ [e] := by rw [List.take_succ, he]; rfl
  have lz : ((es.take i).filterMap kp).length < sizeLine := by
    refine Nat.lt_of_le_of_lt (List.length_filterMap_le _ _) (Nat.lt_of_le_of_lt ?_ (by decide : 100000 < sizeLine))
    rw [List.length_take]
    omega
  refine step e hin H' _ _ p.2.1 (fun y hy H4 s4 => ⟨_, s4 _ _ p.2.2, lz, hi, same_updF (p.2.1.trans s4) nD, ?_⟩) fun hn H4 s4 => ⟨hi, p.2.1.trans s4, ?_⟩
  · rw [upd_same, et, List.filterMap_append]
    simp [hy]
  · rw [et, List.filterMap_append, s4 _ _ p.2.2]
    simp [hn]
end
/-! ### refusals told -/
theorem w_only {K : PySem.W.Frag} {c : Value} {ts : Addr → Value → Option Addr → TS} {Wout : WX} {D : Ends} {σ : L2.St} {H : Hp} {cls : Value} {d : Option Addr} (h : PySem.W.exmOne K cls c = some true) (q : ∀ a, H a = none → ts a cls d D σ H) : wOnly K c ts Wout D cls d σ H :=
  ⟨true, h, fun _ => q, fun z => by cases z⟩
/-! ### lists of pairs of ints, compared -/
def pairD (q : Int × Int) : PyData := .tuple [.int q.1, .int q.2]
theorem pairs_lay : ∀ ps : List (Int × Int), PyData.canLayAll0 (ps.map pairD) = true
  | [] => rfl
  | q :: ps => by
    rw [List.map_cons]
    simp only [PyData.canLayAll0, pairs_lay ps, pairD, PyData.canLay0, Bool.and_self]
theorem pairs_depth : ∀ ps : List (Int × Int), PyData.depthAll (ps.map pairD) ≤ 3
  | [] => by simp [PyData.depthAll]
  | q :: ps => by
    have h := pairs_depth ps
    rw [List.map_cons]
    simp only [PyData.depthAll, pairD, PyData.depth] at h ⊢
    omega
theorem pairs_shaped (ps : List (Int × Int)) : SeqAt.shaped (.list (ps.map pairD)) = true := by
  unfold SeqAt.shaped
  have h := pairs_depth ps
  rw [Bool.and_eq_true]
  refine ⟨by rw [PyData.canLay0]; exact pairs_lay ps, decide_eq_true ?_⟩
  simp only [PyData.depth]
  omega
theorem pairs_eqv (ps : List (Int × Int)) : PyData.eqv (.list (ps.map pairD)) (.list (ps.map pairD)) = true := SeqAt.eqv_refl _ (by rw [PyData.canLay0]; exact pairs_lay ps)
theorem pairs_dp {K : PySem.W.Frag} {H : Hp} : ∀ {rs : List Addr} {ps : List (Int × Int)}, rs.length = ps.length → (∀ (i : Nat) (r : Addr) (m f : Int), rs[i]? = some r → ps[i]? = some (m, f) → H r = some (.tup [.int m, .int f])) → DpAll K H (rs.map V.ref) (ps.map pairD)
  | [], [], _, _ => .nil
  | [], _ :: _, h, _ => by cases h
  | _ :: _, [], h, _ => by cases h
  | r :: rs, (m, f) :: ps, h, k => by
    rw [List.map_cons, List.map_cons]
    exact .cons (.tup (SqT.of (k 0 r m f rfl rfl)) (.cons (.int m) (.cons (.int f) .nil))) (pairs_dp (Nat.succ.inj h) fun i r m f a b => k (i + 1) r m f a b)
theorem w_neD {K : PySem.W.Frag} {H : Hp} {Q : VK} {x y : V} (d : PyData) (h1 : Dp K H x d) (h2 : Dp K H y d) (hs : SeqAt.shaped d = true) (he : PyData.eqv d d = true) (q : Q (.bl false) H) : rNeD K x y H Q := ⟨d, d, h1, h2, hs, hs, by rw [he]; exact q⟩
theorem w_eqD {K : PySem.W.Frag} {H : Hp} {Q : VK} {x y : V} (d : PyData) (h1 : Dp K H x d) (h2 : Dp K H y d) (hs : SeqAt.shaped d = true) (he : PyData.eqv d d = true) (q : Q (.bl true) H) : rEqD K x y H Q := ⟨d, d, h1, h2, hs, hs, by rw [he]; exact q⟩
/-! ### list(range(..)), tuple(range(..)) -/
section
variable {σ : L2.St} {H : Hp} {Q : VK} {ta tb : TE} {te : L2.St → Hp → (Int → Int → Hp → Prop) → Prop}
theorem w_lstRg (q : te σ H fun a b H1 => RgOk a b ∧ ∀ q, H1 q = none → Q (.ref q) (upd H1 q (.lst (rgV a b)))) : tLstRg te σ H Q := q
theorem w_tupRg (q : te σ H fun a b H1 => RgOk a b ∧ ∀ q, H1 q = none → Q (.ref q) (upd H1 q (.tup (rgV a b)))) : tTupRg te σ H Q := q
theorem w_rg1 {Q : Int → Int → Hp → Prop} (q : ta σ H fun x H1 => ∃ n, x = .int n ∧ Q 0 n H1) : tRg1 ta σ H Q := q
theorem w_rg2 {Q : Int → Int → Hp → Prop} (q : ta σ H fun x H1 => tb σ H1 fun y H2 => ∃ i j, x = .int i ∧ y = .int j ∧ Q i j H2) : tRg2 ta tb σ H Q := q
theorem w_eij {i j : Int} {R : Int → Int → Prop} (q : R i j) : ∃ k l, V.int i = .int k ∧ V.int j = .int l ∧ R k l := ⟨i, j, rfl, rfl, q⟩
theorem w_rgok {a b : Int} {R : Prop} (h : 0 ≤ a ∧ b ≤ 16777216 ∧ a ≤ 16777216 ∧ 0 ≤ b) (q : R) : RgOk a b ∧ R := ⟨RgOk.of_le h.1 h.2.1 h.2.2.1 h.2.2.2, q⟩
end
/-! ### values as data: laid, not deep, told apart by == -/
structure DtOk {α : Type} [DecidableEq α] (d : α → PyData) (n : Nat) : Prop where
  lay : ∀ x, (d x).canLay0 = true
  dep : ∀ x, (d x).depth ≤ n
  eqv : ∀ x y, PyData.eqv (d x) (d y) = decide (x = y)
  non : ∀ x, PyData.eqv .none (d x) = false ∧ PyData.eqv (d x) .none = false
section
variable {α β : Type} [DecidableEq α] [DecidableEq β] {d : α → PyData} {n : Nat} {K : PySem.W.Frag} {H : Hp} {Q : VK}
theorem DtOk.int : DtOk PyData.int 0 := ⟨fun x => by rw [PyData.canLay0], fun x => by simp [PyData.depth], fun x y => by
  simp only [PyData.eqv]
  by_cases h : x = y
  · subst h; simp
  · rw [decide_eq_false h]; simpa using h, fun x => by simp [PyData.eqv]⟩
theorem DtOk.layAll (h : DtOk d n) : ∀ xs : List α, PyData.canLayAll0 (xs.map d) = true
  | [] => rfl
  | x :: xs => by
    rw [List.map_cons]
    simp only [PyData.canLayAll0, h.lay x, h.layAll xs, Bool.and_self]
theorem DtOk.depAll (h : DtOk d n) : ∀ xs : List α, PyData.depthAll (xs.map d) ≤ n
  | [] => by simp [PyData.depthAll]
  | x :: xs => by
    have h1 := h.depAll xs
    have h2 := h.dep x
    rw [List.map_cons]
    simp only [PyData.depthAll] at h1 ⊢
    omega
theorem DtOk.eqvAll (h : DtOk d n) : ∀ xs ys : List α, PyData.eqvAll (xs.map d) (ys.map d) = decide (xs = ys)
  | [], [] => by simp [PyData.eqvAll]
  | [], y :: ys => by simp [PyData.eqvAll]
  | x :: xs, [] => by simp [PyData.eqvAll]
  | x :: xs, y :: ys => by
    rw [List.map_cons, List.map_cons]
    simp only [PyData.eqvAll, h.eqv x y, h.eqvAll xs ys]
    by_cases e : x = y <;> by_cases e2 : xs = ys <;> simp [e, e2]
theorem DtOk.list (h : DtOk d n) : DtOk (fun xs : List α => .list (xs.map d)) (n + 1) := ⟨fun xs => by rw [PyData.canLay0]; exact h.layAll xs, fun xs => by
  have := h.depAll xs
  simp only [PyData.depth]
  omega, fun xs ys => by rw [PyData.eqv]; exact h.eqvAll xs ys, fun x => by simp [PyData.eqv]⟩
theorem DtOk.tuple (h : DtOk d n) : DtOk (fun xs : List α => .tuple (xs.map d)) (n + 1) := ⟨fun xs => by rw [PyData.canLay0]; exact h.layAll xs, fun xs => by
  have := h.depAll xs
  simp only [PyData.depth]
  omega, fun xs ys => by rw [PyData.eqv]; exact h.eqvAll xs ys, fun x => by simp [PyData.eqv]⟩
/-- told apart by what they are made of -/
theorem DtOk.of {f : β → α} (h : DtOk d n) (hf : ∀ x y, f x = f y → x = y) : DtOk (fun x => d (f x)) n := ⟨fun x => h.lay _, fun x => h.dep _, fun x y => by
  rw [h.eqv]
  by_cases e : x = y
  · subst e; simp
  · rw [decide_eq_false e, decide_eq_false (fun z => e (hf _ _ z))], fun x => h.non _⟩
def optD (d : α → PyData) : Option α → PyData
  | none => .none
  | some x => d x
theorem DtOk.opt (h : DtOk d n) : ∀ x y : Option α, (optD d x).canLay0 = true ∧ (optD d x).depth ≤ n ∧ PyData.eqv (optD d x) (optD d y) = decide (x = y)
  | none, none => ⟨by simp only [optD]; rw [PyData.canLay0], by simp [optD, PyData.depth], by simp [optD, PyData.eqv]⟩
  | none, some y => ⟨by simp only [optD]; rw [PyData.canLay0], by simp [optD, PyData.depth], by simp [optD, (h.non y).1]⟩
  | some x, none => ⟨h.lay x, h.dep x, by simp [optD, (h.non x).2]⟩
  | some x, some y => ⟨h.lay x, h.dep x, by simp [optD, h.eqv]⟩
theorem shaped_of {e : PyData} (h : e.canLay0 = true) (h2 : e.depth ≤ n) (hn : n ≤ 64) : SeqAt.shaped e = true := by
  unfold SeqAt.shaped
  rw [Bool.and_eq_true]
  exact ⟨h, decide_eq_true (Nat.le_trans h2 hn)⟩
theorem w_eqDt (h : DtOk d n) {x y : V} {a b : α} (h1 : Dp K H x (d a)) (h2 : Dp K H y (d b)) (q : Q (.bl (decide (a = b))) H) (hn : n ≤ 64 := by decide) : rEqD K x y H Q :=
  ⟨d a, d b, h1, h2, shaped_of (h.lay a) (h.dep a) hn, shaped_of (h.lay b) (h.dep b) hn, by rw [h.eqv]; exact q⟩
theorem w_neDt (h : DtOk d n) {x y : V} {a b : α} (h1 : Dp K H x (d a)) (h2 : Dp K H y (d b)) (q : Q (.bl (!decide (a = b))) H) (hn : n ≤ 64 := by decide) : rNeD K x y H Q :=
  ⟨d a, d b, h1, h2, shaped_of (h.lay a) (h.dep a) hn, shaped_of (h.lay b) (h.dep b) hn, by rw [h.eqv]; exact q⟩
theorem w_eqDo (h : DtOk d n) {x y : V} {a b : Option α} (h1 : Dp K H x (optD d a)) (h2 : Dp K H y (optD d b)) (q : Q (.bl (decide (a = b))) H) (hn : n ≤ 64 := by decide) : rEqD K x y H Q :=
  ⟨_, _, h1, h2, shaped_of (h.opt a a).1 (h.opt a a).2.1 hn, shaped_of (h.opt b b).1 (h.opt b b).2.1 hn, by rw [(h.opt a b).2.2]; exact q⟩
theorem w_neDo (h : DtOk d n) {x y : V} {a b : Option α} (h1 : Dp K H x (optD d a)) (h2 : Dp K H y (optD d b)) (q : Q (.bl (!decide (a = b))) H) (hn : n ≤ 64 := by decide) : rNeD K x y H Q :=
  ⟨_, _, h1, h2, shaped_of (h.opt a a).1 (h.opt a a).2.1 hn, shaped_of (h.opt b b).1 (h.opt b b).2.1 hn, by rw [(h.opt a b).2.2]; exact q⟩
theorem dp_map {d : α → PyData} {it : α → V} : ∀ es : List α, (∀ e ∈ es, Dp K H (it e) (d e)) → DpAll K H (es.map it) (es.map d)
  | [], _ => .nil
  | e :: es, h => by
    rw [List.map_cons, List.map_cons]
    exact .cons (h e (List.mem_cons_self ..)) (dp_map es fun e' h' => h e' (List.mem_cons_of_mem _ h'))
theorem dp_mapE {α : Type} {d : α → PyData} {it : α → V} : ∀ es : List α, (∀ e ∈ es, Dp K H (it e) (d e)) → DpAll K H (es.map it) (es.map d)
  | [], _ => .nil
  | e :: es, h => by
    rw [List.map_cons, List.map_cons]
    exact .cons (h e (List.mem_cons_self ..)) (dp_mapE es fun e' h' => h e' (List.mem_cons_of_mem _ h'))
end
/-! ### 1. What values are -/
def isI : V → Bool
  | .int _ => true
  | _ => false
def cnt : V → Bool
  | .int n => decide (0 ≤ n)
  | _ => false
/-- its type is known, and says whether it is an int that is no bool -/
def KInt (K : PySem.W.Frag) (H : Hp) (v : V) (b : Bool) : Prop := ∃ (t : Value) (b1 b2 : Bool), TyX K H v t ∧ PySem.W.kitOne K t (.type "int") = some b1 ∧ (b1 = true → PySem.W.kitOne K t (.type "bool") = some b2) ∧ b = (b1 && !b2)
theorem kint_int {K : PySem.W.Frag} {H : Hp} (n : Int) : KInt K H (.int n) true :=
  ⟨.type "int", true, false, .base (.int n), kit_ty (by decide +kernel), fun _ => kit_ty (by decide +kernel), rfl⟩
def spInt (K : PySem.W.Frag) : Sp := fun vs H Q _ => ∃ (v : V) (b : Bool), vs = [v] ∧ KInt K H v b ∧ Q (.bl b) H
def spCount (K : PySem.W.Frag) : Sp := fun vs H Q _ => ∃ (v : V), vs = [v] ∧ KInt K H v (isI v) ∧ Q (.bl (cnt v)) H
def spList (K : PySem.W.Frag) : Sp := fun vs H Q _ => ∃ (v : V) (t : Value) (b : Bool), vs = [v] ∧ TyX K H v t ∧ PySem.W.kitAny K t [.type "list", .type "tuple"] = some b ∧ ∀ H', Same H H' → Q (.bl b) H'
/-- a pot: two numbers that are not negative, the second one small -/
def Pot (H : Hp) (p : Addr) : Prop := ∃ x y : Int, H p = some (.lst [.int x, .int y]) ∧ 0 ≤ x ∧ 0 ≤ y ∧ y < 4294967296
def spPot (K : PySem.W.Frag) : Sp := fun vs H Q _ => ∃ (s : Addr) (ns : List Int) (k : Int), vs = [.ref s, .int k] ∧ SqL K H s (ns.map V.int) ∧ 0 ≤ k ∧ k ≤ 1000 ∧
  ∀ p H', Same H H' → H p = none → Pot H' p → Q (.ref p) H'
def spDraw : Sp := fun vs H Q _ => ∃ (p : Addr) (n : Int), vs = [.ref p, .int n] ∧ Pot H p ∧ 0 < n ∧ n < 1000000000 ∧
  ∀ d H', Chg p H H' → Pot H' p → 0 ≤ d → d < n → Q (.int d) H'
def spPick (K : PySem.W.Frag) : Sp := fun vs H Q _ => ∃ (p s : Addr) (xs : List V), vs = [.ref p, .ref s] ∧ Pot H p ∧ SqL K H s xs ∧ s ≠ p ∧ (∀ H', Chg p H H' → SqL K H' s xs) ∧ 0 < xs.length ∧ xs.length < 1000000000 ∧
  ∀ v H', Chg p H H' → Pot H' p → v ∈ xs → Q v H'
theorem Pot.same {H H' : Hp} {p : Addr} (s : Same H H') : Pot H p → Pot H' p := fun ⟨x, y, h, r⟩ => ⟨x, y, s _ _ h, r⟩
theorem Pot.chg {H H' : Hp} {p q : Addr} (s : Chg q H H') (n : p ≠ q) : Pot H p → Pot H' p := fun ⟨x, y, h, r⟩ => ⟨x, y, s _ _ h n, r⟩
theorem Pot.upd {H : Hp} {p q : Addr} {o : HO} (n : p ≠ q) : Pot H p → Pot (L2.upd H q o) p := fun ⟨x, y, h, r⟩ => ⟨x, y, (upd_ne n).trans h, r⟩
theorem Pot.new {H : Hp} {p q : Addr} {o : HO} (n : H q = none) : Pot H p → Pot (L2.upd H q o) p := Pot.same (same_new n)
theorem Pot.ne {H : Hp} {p q : Addr} (n : H q = none) : Pot H p → p ≠ q := fun ⟨x, y, h, r⟩ => ne_of_none h n
theorem Pot.ntup {H : Hp} {p : Addr} : Pot H p → ∀ xs, H p ≠ some (.tup xs) := fun ⟨x, y, h, _⟩ xs z => by rw [h] at z; cases z
def due (ns : List Int) (i : Nat) (m : Int) : Int := if i < ns.length then ns.getD i 0 % m else 0
def spDue (K : PySem.W.Frag) : Sp := fun vs H Q _ => ∃ (s : Addr) (ns : List Int) (i : Nat) (m : Int), vs = [.ref s, .int i, .int m] ∧ SqL K H s (ns.map V.int) ∧ 0 < m ∧ Q (.int (due ns i m)) H
/-! ### 2. Whims -/
def fW (t : Addr) (n : Int) : List (Str × V) := [("own_numbers", V.ref t), ("own_taken", V.int n)]
/-- a Whims of the numbers ns stands at w, n were taken -/
def WhAt (C : Addr) (H : Hp) (w : Addr) (ns : List Int) (n : Nat) : Prop := ∃ dx t, H w = some (.ins C dx (fW t n)) ∧ H t = some (.tup (ns.map V.int))
def NumsOk (ns : List Int) : Prop := ns.length ≤ 200 ∧ ∀ n ∈ ns, 0 ≤ n ∧ n ≤ 1000000
def spWInit (C : Addr) : Sp := fun vs H Q _ => ∃ (x dx l : Addr) (ns : List Int), vs = [.ref x, .ref l] ∧ H x = some (.ins C dx []) ∧ (H l = some (.lst (ns.map V.int)) ∨ H l = some (.tup (ns.map V.int))) ∧ NumsOk ns ∧
  ∀ H', Chg x H H' → WhAt C H' x ns 0 → Q .non H'
def spWTaken (C : Addr) : Sp := fun vs H Q _ => ∃ (x : Addr) (ns : List Int) (n : Nat), vs = [.ref x] ∧ WhAt C H x ns n ∧ Q (.int n) H
def spWTake (K : PySem.W.Frag) (C D : Addr) : Sp := fun vs H Q E => ∃ (x : Addr) (ns : List Int) (n : Nat) (m : Int), vs = [.ref x, .int m] ∧ WhAt C H x ns n ∧ (0 < m → ∀ H', Chg x H H' → WhAt C H' x ns (n + 1) → Q (.int (due ns n m)) H') ∧
  (¬ 0 < m → ∀ d H', Same H H' → H d = none → H' d = some (.xd [("value", .int m)]) → E (.ref D) (some d) H')
def spWCopy (C : Addr) : Sp := fun vs H Q _ => ∃ (x : Addr) (ns : List Int) (n : Nat), vs = [.ref x] ∧ WhAt C H x ns n ∧ NumsOk ns ∧ ∀ y H', Same H H' → H y = none → WhAt C H' y ns n → Q (.ref y) H'
theorem WhAt.same {C : Addr} {H H' : Hp} {w : Addr} {ns : List Int} {n : Nat} (s : Same H H') : WhAt C H w ns n → WhAt C H' w ns n := fun ⟨dx, t, h1, h2⟩ => ⟨dx, t, s _ _ h1, s _ _ h2⟩
theorem WhAt.chg {C x : Addr} {H H' : Hp} {w : Addr} {ns : List Int} {n : Nat} (c : Chg x H H') (h : w ≠ x) (hx : ∀ xs, H x ≠ some (.tup xs)) : WhAt C H w ns n → WhAt C H' w ns n := fun ⟨dx, t, h1, h2⟩ =>
  ⟨dx, t, c _ _ h1 h, c _ _ h2 (fun z => hx _ (by rw [← z]; exact h2))⟩
theorem WhAt.ne_pot {C : Addr} {H : Hp} {w p : Addr} {ns : List Int} {n : Nat} : WhAt C H w ns n → Pot H p → w ≠ p := fun ⟨dx, t, h1, _⟩ ⟨x, y, h2, _⟩ => ne_of h1 h2 (by intro z; cases z)
theorem WhAt.updL {C : Addr} {H : Hp} {w x : Addr} {ns : List Int} {n : Nat} {xs : List V} {o : HO} (z : WhAt C H w ns n) (h : H x = some (.lst xs)) : WhAt C (L2.upd H x o) w ns n := by
  obtain ⟨dx, t, h1, h2⟩ := z
  exact ⟨dx, t, (upd_ne (ne_of h1 h (by intro z; cases z))).trans h1, (upd_ne (ne_of h2 h (by intro z; cases z))).trans h2⟩
/-! ### bits, the lowest first -/
def bitsL : Nat → Int → List Int
  | 0, _ => []
  | n + 1, x => x % 2 :: bitsL n (x / 2)
def ofL : List Int → Int
  | [] => 0
  | b :: r => b + 2 * ofL r
def addL : List Int → List Int → Int → List Int
  | p :: a, q :: b, c => (p + q + c) % 2 :: addL a b ((p + q + c) / 2)
  | _, _, _ => []
theorem bitsL_len (n : Nat) : ∀ x, (bitsL n x).length = n := by
  induction n with
  | zero => intro x; rfl
  | succ n ih => intro x; simp [bitsL, ih]
theorem mod_two_mul (t u M : Int) (hM : 0 < M) : (t + 2 * u) % (2 * M) = t % 2 + 2 * ((t / 2 + u) % M) := by
  have h1 := Int.emod_add_mul_ediv (t / 2 + u) M
  have h2 := Int.emod_nonneg (t / 2 + u) (show M ≠ 0 by omega)
  have h3 := Int.emod_lt_of_pos (t / 2 + u) hM
  have e : t + 2 * u = (t % 2 + 2 * ((t / 2 + u) % M)) + (2 * M) * ((t / 2 + u) / M) := by
    have h4 : 2 * (t / 2 + u) = 2 * ((t / 2 + u) % M) + (2 * M) * ((t / 2 + u) / M) := by
      rw [Int.mul_assoc, ← Int.mul_add, h1]
    omega
  rw [e, Int.add_mul_emod_self_left]
  exact Int.emod_eq_of_lt (by omega) (by omega)
theorem pow_pos2 (n : Nat) : (0 : Int) < 2 ^ n := Int.pow_pos (by decide)
theorem of_bits (n : Nat) : ∀ x, ofL (bitsL n x) = x % 2 ^ n := by
  induction n with
  | zero => intro x; simp [bitsL, ofL, Int.emod_one]
  | succ n ih =>
    intro x
    show x % 2 + 2 * ofL (bitsL n (x / 2)) = _
    rw [ih, Int.pow_succ', show x = x + 2 * 0 by omega, mod_two_mul _ _ _ (pow_pos2 n)]
    simp
theorem of_add : ∀ (a b : List Int) (c : Int), a.length = b.length → ofL (addL a b c) = (ofL a + ofL b + c) % 2 ^ a.length
  | [], [], c, _ => by simp [addL, ofL, Int.emod_one]
  | p :: a, q :: b, c, h => by
    have ih := of_add a b ((p + q + c) / 2) (by simpa using h)
    show (p + q + c) % 2 + 2 * ofL (addL a b ((p + q + c) / 2)) = (p + 2 * ofL a + (q + 2 * ofL b) + c) % 2 ^ (a.length + 1)
    rw [ih, Int.pow_succ', show p + 2 * ofL a + (q + 2 * ofL b) + c = (p + q + c) + 2 * (ofL a + ofL b) by omega, mod_two_mul _ _ _ (pow_pos2 _)]
    congr 3
    omega
theorem add_len : ∀ (a b : List Int) (c : Int), a.length = b.length → (addL a b c).length = a.length
  | [], [], _, _ => rfl
  | p :: a, q :: b, c, h => by
    show (addL a b _).length + 1 = a.length + 1
    rw [add_len a b _ (by simpa using h)]
theorem of_app : ∀ (a b : List Int), ofL (a ++ b) = ofL a + 2 ^ a.length * ofL b
  | [], b => by simp [ofL]
  | p :: a, b => by
    show p + 2 * ofL (a ++ b) = p + 2 * ofL a + 2 ^ (a.length + 1) * ofL b
    rw [of_app a b, Int.pow_succ', Int.mul_assoc]
    omega
theorem bits_take : ∀ (n k : Nat) (x : Int), (bitsL n x).take k = bitsL (min k n) x
  | 0, k, x => by simp [bitsL]
  | n + 1, 0, x => by simp [bitsL]
  | n + 1, k + 1, x => by
    rw [show min (k + 1) (n + 1) = min k n + 1 by omega]
    simp [bitsL, bits_take n k]
theorem bits_drop : ∀ (n k : Nat) (x : Int), (bitsL n x).drop k = bitsL (n - k) (x / 2 ^ k)
  | 0, k, x => by simp [bitsL]
  | n + 1, 0, x => by simp
  | n + 1, k + 1, x => by
    rw [show n + 1 - (k + 1) = n - k by omega, Int.pow_succ', ← Int.ediv_ediv_of_nonneg (by decide)]
    simp [bitsL, bits_drop n k]
theorem bits_mem : ∀ (n : Nat) (x b : Int), b ∈ bitsL n x → b = 0 ∨ b = 1
  | 0, x, b, h => by cases h
  | n + 1, x, b, h => by
    rcases List.mem_cons.mp h with h | h
    · omega
    · exact bits_mem n _ b h
theorem of_rep (k : Nat) : ofL (List.replicate k 0) = 0 := by
  induction k with
  | zero => rfl
  | succ k ih => simp [List.replicate_succ, ofL, ih]
/-- both, either, unlike -/
theorem of_and (n : Nat) : ∀ (x y : Nat), x < 2 ^ n → y < 2 ^ n → ofL (List.zipWith (fun p q => p * q) (bitsL n x) (bitsL n y)) = ((x &&& y : Nat) : Int) := by
  induction n with
  | zero =>
    intro x y hx hy
    have e : x = 0 := by simpa using hx
    have e' : y = 0 := by simpa using hy
    subst e e'
    simp [bitsL, ofL]
  | succ n ih =>
    intro x y hx hy
    have h := ih (x / 2) (y / 2) (by rw [Nat.pow_succ] at hx; omega) (by rw [Nat.pow_succ] at hy; omega)
    show (fun p q : Int => p * q) ((x : Int) % 2) ((y : Int) % 2) + 2 * ofL (List.zipWith _ (bitsL n ((x : Int) / 2)) (bitsL n ((y : Int) / 2))) = _
    rw [show (x : Int) / 2 = ((x / 2 : Nat) : Int) by omega, show (y : Int) / 2 = ((y / 2 : Nat) : Int) by omega, h]
    have e1 : (x &&& y) / 2 = x / 2 &&& y / 2 := Nat.and_div_two
    have e2 : (x &&& y) % 2 = (x % 2) &&& (y % 2) := Nat.and_mod_two_pow (n := 1)
    rw [← e1]
    have q1 : x % 2 = 0 ∨ x % 2 = 1 := by omega
    have q2 : y % 2 = 0 ∨ y % 2 = 1 := by omega
    have q3 : (x : Int) % 2 = ((x % 2 : Nat) : Int) := by omega
    have q4 : (y : Int) % 2 = ((y % 2 : Nat) : Int) := by omega
    show (fun p q : Int => p * q) ((x : Int) % 2) ((y : Int) % 2) + _ = _
    rw [q3, q4]
    rcases q1 with q1 | q1 <;> rcases q2 with q2 | q2 <;> (rw [q1, q2] at e2 ⊢; generalize x &&& y = z at e2 ⊢; simp at e2 ⊢; omega)
theorem of_or (n : Nat) : ∀ (x y : Nat), x < 2 ^ n → y < 2 ^ n → ofL (List.zipWith (fun p q => if q > p then q else p) (bitsL n x) (bitsL n y)) = ((x ||| y : Nat) : Int) := by
  induction n with
  | zero =>
    intro x y hx hy
    have e : x = 0 := by simpa using hx
    have e' : y = 0 := by simpa using hy
    subst e e'
    simp [bitsL, ofL]
  | succ n ih =>
    intro x y hx hy
    have h := ih (x / 2) (y / 2) (by rw [Nat.pow_succ] at hx; omega) (by rw [Nat.pow_succ] at hy; omega)
    show (fun p q : Int => if q > p then q else p) ((x : Int) % 2) ((y : Int) % 2) + 2 * ofL (List.zipWith _ (bitsL n ((x : Int) / 2)) (bitsL n ((y : Int) / 2))) = _
    rw [show (x : Int) / 2 = ((x / 2 : Nat) : Int) by omega, show (y : Int) / 2 = ((y / 2 : Nat) : Int) by omega, h]
    have e1 : (x ||| y) / 2 = x / 2 ||| y / 2 := Nat.or_div_two
    have e2 : (x ||| y) % 2 = (x % 2) ||| (y % 2) := Nat.or_mod_two_pow (n := 1)
    rw [← e1]
    have q1 : x % 2 = 0 ∨ x % 2 = 1 := by omega
    have q2 : y % 2 = 0 ∨ y % 2 = 1 := by omega
    have q3 : (x : Int) % 2 = ((x % 2 : Nat) : Int) := by omega
    have q4 : (y : Int) % 2 = ((y % 2 : Nat) : Int) := by omega
    show (fun p q : Int => if q > p then q else p) ((x : Int) % 2) ((y : Int) % 2) + _ = _
    rw [q3, q4]
    rcases q1 with q1 | q1 <;> rcases q2 with q2 | q2 <;> (rw [q1, q2] at e2 ⊢; generalize x ||| y = z at e2 ⊢; simp at e2 ⊢; omega)
theorem of_xor (n : Nat) : ∀ (x y : Nat), x < 2 ^ n → y < 2 ^ n → ofL (List.zipWith (fun p q => if p - q < 0 then -(p - q) else p - q) (bitsL n x) (bitsL n y)) = ((x ^^^ y : Nat) : Int) := by
  induction n with
  | zero =>
    intro x y hx hy
    have e : x = 0 := by simpa using hx
    have e' : y = 0 := by simpa using hy
    subst e e'
    simp [bitsL, ofL]
  | succ n ih =>
    intro x y hx hy
    have h := ih (x / 2) (y / 2) (by rw [Nat.pow_succ] at hx; omega) (by rw [Nat.pow_succ] at hy; omega)
    show (fun p q : Int => if p - q < 0 then -(p - q) else p - q) ((x : Int) % 2) ((y : Int) % 2) + 2 * ofL (List.zipWith _ (bitsL n ((x : Int) / 2)) (bitsL n ((y : Int) / 2))) = _
    rw [show (x : Int) / 2 = ((x / 2 : Nat) : Int) by omega, show (y : Int) / 2 = ((y / 2 : Nat) : Int) by omega, h]
    have e1 : (x ^^^ y) / 2 = x / 2 ^^^ y / 2 := Nat.xor_div_two
    have e2 : (x ^^^ y) % 2 = (x % 2) ^^^ (y % 2) := Nat.xor_mod_two_pow (n := 1)
    rw [← e1]
    have q1 : x % 2 = 0 ∨ x % 2 = 1 := by omega
    have q2 : y % 2 = 0 ∨ y % 2 = 1 := by omega
    have q3 : (x : Int) % 2 = ((x % 2 : Nat) : Int) := by omega
    have q4 : (y : Int) % 2 = ((y % 2 : Nat) : Int) := by omega
    show (fun p q : Int => if p - q < 0 then -(p - q) else p - q) ((x : Int) % 2) ((y : Int) % 2) + _ = _
    rw [q3, q4]
    rcases q1 with q1 | q1 <;> rcases q2 with q2 | q2 <;> (rw [q1, q2] at e2 ⊢; generalize x ^^^ y = z at e2 ⊢; simp at e2 ⊢; omega)
/-! ### times: the rows of the one word, added where the other has a bit -/
theorem pow_split (y : Int) (i : Nat) : y % 2 ^ (i + 1) = y % 2 ^ i + 2 ^ i * (y / 2 ^ i % 2) := by
  have h1 := Int.emod_add_mul_ediv y (2 ^ i)
  have h2 := Int.emod_add_mul_ediv (y / 2 ^ i) 2
  have h3 := Int.emod_nonneg y (show (2 : Int) ^ i ≠ 0 from (by have := pow_pos2 i; omega))
  have h4 := Int.emod_lt_of_pos y (pow_pos2 i)
  have h5 : y / 2 ^ i % 2 = 0 ∨ y / 2 ^ i % 2 = 1 := by omega
  have hp := pow_pos2 i
  have e : y = (y % 2 ^ i + 2 ^ i * (y / 2 ^ i % 2)) + 2 ^ (i + 1) * (y / 2 ^ i / 2) := by
    rw [Int.pow_succ, Int.mul_assoc, Int.add_assoc, ← Int.mul_add, h2, h1]
  conv => lhs; rw [e]
  rw [Int.add_mul_emod_self_left]
  refine Int.emod_eq_of_lt ?_ ?_
  · rcases h5 with h | h <;> rw [h] <;> omega
  · rw [Int.pow_succ]
    rcases h5 with h | h <;> rw [h] <;> omega
theorem nat_and_put (x lo m : Nat) : x &&& ((2 ^ m - 1) * 2 ^ lo) = 2 ^ lo * ((x / 2 ^ lo) % 2 ^ m) := by
  refine Nat.eq_of_testBit_eq fun i => ?_
  rw [Nat.testBit_and, Nat.testBit_mul_two_pow, Nat.testBit_two_pow_mul, Nat.testBit_mod_two_pow, Nat.testBit_div_two_pow, Nat.testBit_two_pow_sub_one]
  by_cases h : lo ≤ i
  · simp [h, Nat.sub_add_cancel h, Nat.add_sub_cancel' h]
    cases x.testBit i <;> simp
  · simp [h]
theorem nat_put (x lo m v : Nat) (hv : v < 2 ^ m) : (x - (x &&& ((2 ^ m - 1) * 2 ^ lo))) ||| (v * 2 ^ lo) = x % 2 ^ lo + 2 ^ lo * v + 2 ^ (lo + m) * (x / 2 ^ (lo + m)) := by
  have h1 := Nat.div_add_mod x (2 ^ lo)
  have h2 := Nat.div_add_mod (x / 2 ^ lo) (2 ^ m)
  have hl : x % 2 ^ lo < 2 ^ lo := Nat.mod_lt _ (Nat.two_pow_pos _)
  have e1 : x - (x &&& ((2 ^ m - 1) * 2 ^ lo)) = 2 ^ lo * (2 ^ m * (x / 2 ^ lo / 2 ^ m)) + x % 2 ^ lo := by
    rw [nat_and_put]
    have e : 2 ^ lo * (x / 2 ^ lo) = 2 ^ lo * (2 ^ m * (x / 2 ^ lo / 2 ^ m)) + 2 ^ lo * (x / 2 ^ lo % 2 ^ m) := by
      rw [← Nat.mul_add, h2]
    omega
  have e2 : (2 ^ lo * (2 ^ m * (x / 2 ^ lo / 2 ^ m)) + x % 2 ^ lo) ||| (v * 2 ^ lo) = 2 ^ lo * ((2 ^ m * (x / 2 ^ lo / 2 ^ m)) ||| v) + x % 2 ^ lo := by
    refine Nat.eq_of_testBit_eq fun i => ?_
    rw [Nat.testBit_or, Nat.testBit_two_pow_mul_add _ hl, Nat.testBit_two_pow_mul_add _ hl, Nat.testBit_mul_two_pow]
    by_cases h : i < lo
    · simp [h, Nat.not_le.mpr h]
    · simp [h, Nat.not_lt.mp h]
  rw [e1, e2, ← Nat.two_pow_add_eq_or_of_lt hv, Nat.mul_add, Nat.pow_add, Nat.div_div_eq_div_mul, Nat.mul_assoc]
  omega
theorem int_put {x lo m v : Int} (hx : 0 ≤ x) (h0 : 0 ≤ lo) (h1 : 0 ≤ m) (hv : 0 ≤ v) (hv2 : v < 2 ^ m.toNat) :
    Builtin.bitOr (Builtin.bitAnd x (Builtin.bitNot ((1 * 2 ^ m.toNat - 1) * 2 ^ lo.toNat))) (v * 2 ^ lo.toNat) = x % 2 ^ lo.toNat + 2 ^ lo.toNat * v + 2 ^ (lo.toNat + m.toNat) * (x / 2 ^ (lo.toNat + m.toNat)) := by
  obtain ⟨x, rfl⟩ := Int.eq_ofNat_of_zero_le hx
  obtain ⟨v, rfl⟩ := Int.eq_ofNat_of_zero_le hv
  generalize lo.toNat = lo
  generalize m.toNat = m at hv2 ⊢
  have hv3 : v < 2 ^ m := by exact_mod_cast hv2
  have hp : 1 ≤ 2 ^ m := Nat.two_pow_pos m
  have eM : ((1 : Int) * 2 ^ m - 1) * 2 ^ lo = (((2 ^ m - 1) * 2 ^ lo : Nat) : Int) := by
    rw [Int.one_mul, Int.natCast_mul, Int.natCast_sub hp]
    simp
  have eA : Builtin.bitAnd (x : Int) (Builtin.bitNot ((1 * 2 ^ m - 1) * 2 ^ lo)) = ((x - (x &&& ((2 ^ m - 1) * 2 ^ lo)) : Nat) : Int) := by
    rw [eM]
    generalize (2 ^ m - 1) * 2 ^ lo = M
    have hle : x &&& M ≤ x := Nat.and_le_left
    rw [PyProof.Rows.bitAnd_not, PyProof.Rows.bitAnd_pp (by omega) (by omega), Int.toNat_natCast, Int.toNat_natCast]
    omega
  rw [eA]
  have eV : (v : Int) * 2 ^ lo = ((v * 2 ^ lo : Nat) : Int) := by simp
  rw [eV, Bits.bitOr_pp (by omega) (by omega), Int.toNat_natCast, Int.toNat_natCast, nat_put x lo m v hv3]
  simp
theorem pow_le2 {k n : Nat} (h : k ≤ n) : (2 : Int) ^ k ≤ 2 ^ n := by exact_mod_cast Nat.pow_le_pow_right (by decide) h
/-! ### words, numbers within bounds: asked for, refused -/
def isWord : V → Bool
  | .int n => decide (0 ≤ n) && decide (n < 65536)
  | _ => false
def isMany (lo hi : Int) : V → Bool
  | .int n => decide (0 ≤ n) && (decide (lo ≤ n) && decide (n ≤ hi))
  | _ => false
def W16 (x : Int) : Prop := 0 ≤ x ∧ x < 65536
theorem isWord_of {x : Int} (h : W16 x) : isWord (.int x) = true := by
  obtain ⟨h1, h2⟩ := h
  simp [isWord, h1, h2]
theorem isMany_of {x lo hi : Int} (h0 : 0 ≤ x) (h1 : lo ≤ x) (h2 : x ≤ hi) : isMany lo hi (.int x) = true := by simp [isMany, h0, h1, h2]
/-- what is wanted of a refusal of v by an error of the class at C -/
def Refuse (C : Addr) (E : XK) (H : Hp) (v : V) : Prop := ∀ d H', Same H H' → H d = none → H' d = some (.xd [("value", v)]) → E (.ref C) (some d) H'
def spIsWord (K : PySem.W.Frag) : Sp := fun vs H Q _ => ∃ (v : V), vs = [v] ∧ KInt K H v (isI v) ∧ Q (.bl (isWord v)) H
def spWantWord (K : PySem.W.Frag) (C : Addr) : Sp := fun vs H Q E => ∃ (v : V), vs = [v] ∧ KInt K H v (isI v) ∧ (isWord v = true → Q .non H) ∧ (isWord v = false → Refuse C E H v)
def spWantMany (K : PySem.W.Frag) (C : Addr) : Sp := fun vs H Q E => ∃ (v : V) (lo hi : Int), vs = [v, .int lo, .int hi] ∧ KInt K H v (isI v) ∧ (isMany lo hi v = true → Q .non H) ∧ (isMany lo hi v = false → Refuse C E H v)
theorem w_wantWord {K : PySem.W.Frag} {C : Addr} {H : Hp} {Q : VK} {E : XK} {x : Int} (h : W16 x) (q : Q .non H) : spWantWord K C [.int x] H Q E := ⟨_, rfl, kint_int x, fun _ => q, fun z => by rw [isWord_of h] at z; cases z⟩
theorem w_wantMany {K : PySem.W.Frag} {C : Addr} {H : Hp} {Q : VK} {E : XK} {x lo hi : Int} (h0 : 0 ≤ x) (h1 : lo ≤ x) (h2 : x ≤ hi) (q : Q .non H) : spWantMany K C [.int x, .int lo, .int hi] H Q E := ⟨_, _, _, rfl, kint_int x, fun _ => q, fun z => by rw [isMany_of h0 h1 h2] at z; cases z⟩
/-- two words to one number -/
def spW2 (f : Int → Int → Int) (ok : Int → Int → Prop) : Sp := fun vs H Q _ => ∃ x y : Int, vs = [.int x, .int y] ∧ ok x y ∧ Q (.int (f x y)) H
def spI1 (f : Int → Int) (ok : Int → Prop) : Sp := fun vs H Q _ => ∃ x : Int, vs = [.int x] ∧ ok x ∧ Q (.int (f x)) H
def spI3 (f : Int → Int → Int → Int) (ok : Int → Int → Int → Prop) : Sp := fun vs H Q _ => ∃ x y z : Int, vs = [.int x, .int y, .int z] ∧ ok x y z ∧ Q (.int (f x y z)) H
def spI4 (f : Int → Int → Int → Int → Int) (ok : Int → Int → Int → Int → Prop) : Sp := fun vs H Q _ => ∃ x y z u : Int, vs = [.int x, .int y, .int z, .int u] ∧ ok x y z u ∧ Q (.int (f x y z u)) H
def spTwoW (K : PySem.W.Frag) : Sp := fun vs H Q _ => ∃ x y : Int, vs = [.int x, .int y] ∧ (W16 x ∧ W16 y) ∧ Q .non H
/-- a new list of ints -/
def NewL (H : Hp) (Q : VK) (xs : List Int) : Prop := ∀ p H', Same H H' → H p = none → H' p = some (.lst (xs.map V.int)) → Q (.ref p) H'
/-! ### loops and comprehensions over anything that is walked -/
def kLoop (g : TG) (tb : TS) (D : Ends) (σ : L2.St) (J : It) (H : Hp) : Prop := ∃ W : Nat → Nat → L2.St → Hp → Prop, (∃ m, W 0 m σ H) ∧ ∀ i m σ H, W i m σ H →
  (J.stop i H ∧ D.nx σ H) ∨ (J.go i H ∧ ∃ N : L2.St → Hp → Prop, (∀ σ' H', N σ' H' → ∃ m', m' < m ∧ W (i + 1) m' σ' H') ∧ ∀ x H', J.yld i H x H' → g x σ H' fun σ2 H2 => tb { D with nx := N, ct := N, bk := D.nx } σ2 H2)
def kComp (g : TG) (te : TE) (vs : List Nat) (σ : L2.St) (Q : VK) (J : It) (H : Hp) : Prop := ∀ D, H D = none → ∃ W : Nat → Nat → Hp → Prop, (∃ m, W 0 m (upd H D (.lst []))) ∧ ∀ i m H, W i m H →
  (J.stop i H ∧ Q (.ref D) H) ∨ (J.go i H ∧ ∃ Nx : Hp → Prop, (∀ H', Nx H' → ∃ m', m' < m ∧ W (i + 1) m' H') ∧ ∀ x H', J.yld i H x H' → g x (wipe σ vs) H' fun σ2 H2 => wipe σ2 vs = wipe σ vs ∧ tYes σ2 H2 fun b H3 =>
    if b = true then te σ2 H3 fun y H4 => ∃ acc, H4 D = some (.lst acc) ∧ acc.length < sizeLine ∧ Nx (upd H4 D (.lst (acc ++ [y]))) else Nx H3)
section
variable {K : PySem.W.Frag} {σ : L2.St} {H : Hp} {g : TG} {tb : TS} {te tl : TE} {ta : TA} {nx bk ct : L2.St → Hp → Prop} {rt Q : VK} {vs : List Nat} {J : It} {n : Nat} {G : Hp → Prop} {Y : Nat → Hp → V → Hp → Prop} {R : It → Hp → Prop}
def kZip (K : PySem.W.Frag) (R : It → Hp → Prop) (us : List V) (H : Hp) : Prop := ∃ a b xs ys, us = [.ref a, .ref b] ∧ SqL K H a xs ∧ SqL K H b ys ∧ R (Itz K a b) H
def kEnum (K : PySem.W.Frag) (R : It → Hp → Prop) (us : List V) (H : Hp) : Prop := ∃ a xs, us = [.ref a] ∧ SqL K H a xs ∧ R (Ite K a) H
theorem w_forZ (q : ta σ H fun us H1 => kZip K (kLoop g tb ⟨nx, rt, bk, ct⟩ σ) us H1) : tFor (iZip K ta) g tb ⟨nx, rt, bk, ct⟩ σ H := q
theorem w_forE (q : ta σ H fun us H1 => kEnum K (kLoop g tb ⟨nx, rt, bk, ct⟩ σ) us H1) : tFor (iEnum K ta) g tb ⟨nx, rt, bk, ct⟩ σ H := q
theorem w_lcZ (q : ta σ H fun us H1 => kZip K (kComp g te vs σ Q) us H1) : tLc (iZip K ta) g tYes te vs σ H Q := q
theorem w_lcE (q : ta σ H fun us H1 => kEnum K (kComp g te vs σ Q) us H1) : tLc (iEnum K ta) g tYes te vs σ H Q := q
theorem w_zip {a b : Addr} {xs ys : List V} (h1 : SqL K H a xs) (h2 : SqL K H b ys) (q : R (Itz K a b) H) : kZip K R [.ref a, .ref b] H := ⟨a, b, xs, ys, rfl, h1, h2, q⟩
theorem w_enum {a : Addr} {xs : List V} (h1 : SqL K H a xs) (q : R (Ite K a) H) : kEnum K R [.ref a] H := ⟨a, xs, rfl, h1, q⟩
theorem w_loop (w : Walk J n G Y) (Pv : Nat → L2.St → Hp → Prop) (h0 : Pv 0 σ H) (hG : ∀ i σ H, i ≤ n → Pv i σ H → G H)
    (hs : ∀ i x σ' H' H'', i < n → Pv i σ' H' → Y i H' x H'' → g x σ' H'' fun σ2 H2 => tb ⟨Pv (i + 1), rt, nx, Pv (i + 1)⟩ σ2 H2) (hd : ∀ σ' H', Pv n σ' H' → nx σ' H') : kLoop g tb ⟨nx, rt, bk, ct⟩ σ J H :=
  for_it w (D := ⟨nx, rt, bk, ct⟩) Pv h0 hG hs hd
/-- each turn of a comprehension gives f i, and nothing that stood is changed -/
theorem w_comp (f : Nat → V) (w : Walk J n G Y) (hn : n ≤ 100000) (hG : ∀ H', Same H H' → G H')
    (step : ∀ (i : Nat) (x : V) (H' H'' : Hp) (R : VK) (S : Hp → Prop), i < n → Same H H' → Y i H' x H'' → (Same H' H'' → ∀ H4, Same H'' H4 → R (f i) H4) → g x (wipe σ vs) H'' fun σ2 H2 => wipe σ2 vs = wipe σ vs ∧ tYes σ2 H2 fun b H3 => if b = true then te σ2 H3 R else S H3)
    (q : ∀ D H', Same H H' → H D = none → H' D = some (.lst ((List.range n).map f)) → Q (.ref D) H') : kComp g te vs σ Q J H := fun D nD => by
  refine lc_it w (fun i H' => i ≤ n ∧ Same H H' ∧ H' D = some (.lst ((List.range i).map f))) ⟨Nat.zero_le _, same_new nD, upd_same⟩ (fun i H' _ p => hG _ p.2.1) (fun i x H' H'' hi p y => ?_) (fun H' p => q D H' p.2.1 nD p.2.2)
  refine step i x H' H'' _ _ hi p.2.1 y fun s4 H4 s5 => ?_
  have hD4 := s5 _ _ (s4 _ _ p.2.2)
  refine ⟨_, hD4, ?_, hi, lc_inv nD ((p.2.1.trans s4).trans s5) hD4 _ rfl⟩
  rw [List.length_map, List.length_range]
  exact Nat.lt_of_lt_of_le (Nat.lt_of_lt_of_le hi hn) (by decide)
end
/-! ### lists of ints, compared -/
theorem ints_lay : ∀ ps : List Int, PyData.canLayAll0 (ps.map PyData.int) = true
  | [] => rfl
  | q :: ps => by
    rw [List.map_cons]
    simp only [PyData.canLayAll0, ints_lay ps, PyData.canLay0, Bool.and_self]
theorem ints_depth : ∀ ps : List Int, PyData.depthAll (ps.map PyData.int) ≤ 1
  | [] => by simp [PyData.depthAll]
  | q :: ps => by
    have h := ints_depth ps
    rw [List.map_cons]
    simp only [PyData.depthAll, PyData.depth] at h ⊢
    omega
theorem ints_shaped (ps : List Int) : SeqAt.shaped (.list (ps.map PyData.int)) = true := by
  unfold SeqAt.shaped
  have h := ints_depth ps
  rw [Bool.and_eq_true]
  refine ⟨by rw [PyData.canLay0]; exact ints_lay ps, decide_eq_true ?_⟩
  simp only [PyData.depth]
  omega
theorem ints_eqv (ps : List Int) : PyData.eqv (.list (ps.map PyData.int)) (.list (ps.map PyData.int)) = true := SeqAt.eqv_refl _ (by rw [PyData.canLay0]; exact ints_lay ps)
theorem ints_dp {K : PySem.W.Frag} {H : Hp} : ∀ ps : List Int, DpAll K H (ps.map V.int) (ps.map PyData.int)
  | [] => .nil
  | n :: ps => by
    rw [List.map_cons, List.map_cons]
    exact .cons (.int n) (ints_dp ps)
theorem w_neIs {K : PySem.W.Frag} {H : Hp} {Q : VK} {p r : Addr} {ps qs : List Int} (h1 : SqL K H p (ps.map V.int)) (h2 : SqL K H r (qs.map V.int)) (e : ps = qs) (q : Q (.bl false) H) : rNeD K (.ref p) (.ref r) H Q := by
  subst e
  exact w_neD (.list (ps.map PyData.int)) (.lst h1 (ints_dp ps)) (.lst h2 (ints_dp ps)) (ints_shaped _) (ints_eqv _) q
theorem w_eqIs {K : PySem.W.Frag} {H : Hp} {Q : VK} {p r : Addr} {ps qs : List Int} (h1 : SqL K H p (ps.map V.int)) (h2 : SqL K H r (qs.map V.int)) (e : ps = qs) (q : Q (.bl true) H) : rEqD K (.ref p) (.ref r) H Q := by
  subst e
  exact w_eqD (.list (ps.map PyData.int)) (.lst h1 (ints_dp ps)) (.lst h2 (ints_dp ps)) (ints_shaped _) (ints_eqv _) q
/-- what isinstance asks of the instances of the class at C -/
structure InsTy (K : PySem.W.Frag) (C : Addr) : Prop where
  ha : PySem.W.findIn K (.ref C) "__class__" = some (some (.builtin "object.__class__"))
  hn : PySem.W.specialIn K (.builtin "object.__class__") "__get__" = some (some (.builtin "getset_descriptor.__get__"))
  ht : PySem.W.takesIn K (.builtin "object.__class__") = some true
  hm : PySem.W.mroIn K C (.type "object") = some true
theorem InsTy.ty {K : PySem.W.Frag} {C a dx : Addr} {fs : List (Str × V)} {H : Hp} (i : InsTy K C) (c : Cls K C) (h : H a = some (.ins C dx fs)) : TyX K H (.ref a) (.ref C) := .base (.ins h c i.ha i.hn i.ht i.hm)
theorem kit_own {K : PySem.W.Frag} {t : String} {C : Addr} (h1 : PySem.W.isClsIn K C = true) (h2 : PySem.W.typeIn K (.ref C) = some (.type "type")) (h3 : PySem.W.subIn K (.type t) (.ref C) = some false) : PySem.W.kitOne K (.type t) (.ref C) = some false := by
  unfold PySem.W.kitOne
  rw [if_neg (by simp)]
  show (if ((PySem.W.clsIn K C).isSome && PySem.W.typeIn K (.ref C) == some (.type "type")) = true then PySem.W.subIn K (.type t) (.ref C) else none) = some false
  rw [if_pos (by rw [show (PySem.W.clsIn K C).isSome = true from h1, h2] <;> rfl)]
  exact h3
/-! ### x == y by x's own __eq__, whatever y is -/
structure EqC (K : PySem.W.Frag) (C f : Addr) : Prop where
  at_ : PySem.W.findIn K (.ref C) "__eq__" = some (some (.ref f))
  fn : PySem.W.isFn K (.ref f) = true
def rOwn (K : PySem.W.Frag) (C : Addr) (sp : Sp) (E : XK) : R2 := fun x y H Q => ∃ (a dx : Addr) (fs : List (Str × V)) (t : Value), x = .ref a ∧ H a = some (.ins C dx fs) ∧ TyX K H y t ∧ PySem.W.notFirst K C t = true ∧ sp [x, y] H (fun v H' => ∃ b, v = .bl b ∧ Q v H') E
section
open PySem.Spec PyProof.Rows
theorem op_own {X : Cx} {CX : CXT} {n : Nat} {C f : Addr} {fd : FuncData} {ps : List Str} {sp : Sp} {E : XK} (F : FnOk X.prog X.w X.K X.mg X.base CX n f fd ps sp) (q : EqC X.K C f) (hr : Room n X.A) (hb : Binds X.K fd ps []) (hx : Passes CX X E) : OpR X (compareOp .Eq) (rOwn X.K C sp E) := by
  intro pins s σ H x y v u Q I rx ry h
  obtain ⟨a, dx, fs, t, rfl, ha, ty, hn, hsp⟩ := h
  show wpAny (model X.prog X.w) X.A (richCompare .Eq v u) (EP X pins σ Q) X.xe s
  obtain rfl : v = Value.ref a := rx
  obtain ⟨mA, J, _⟩ := ins_get I.hok ha
  obtain ⟨od, J, _⟩ := J.look
  obtain ⟨m, hF⟩ := I.fr
  obtain ⟨P, Z, p, _⟩ := kit_of I ry ty
  refine PySem.W.cmp_K (op := .Eq) (tb := t) hr.units0 hF I.ok.mod.kin J (Z.ty _ _ I.kIn p) hn q.at_ q.fn ?_
  have hl := F.len _ _ _ _ hsp
  have r2 : Vals [V.ref a, y] [Value.ref a, u] := .cons rfl (.cons ry .nil)
  refine wpAny_call (codeAny_mono (F.run X.A X.stack s H ⟨[.ref a, u], []⟩ [.ref a, u] [.ref a, y] _ E hr I.env0 (by
    have h2 := hb s [.ref a, u] I.kIn (by simpa using hl)
    simpa using h2) r2 hsp) fun r s' hq => ?_)
  cases r with
  | error e => exact hx pins σ H s e s' I hq
  | ok fl =>
    cases fl with
    | ret w =>
      obtain ⟨z, H', I', rz, ⟨b, ez, q⟩⟩ := I.after hq
      subst ez
      cases rz
      exact ⟨.bl b, H', I', rfl, q⟩
    | next => exact False.elim hq
    | brk => exact False.elim hq
    | cont => exact False.elim hq
end
end Toy
namespace Toy
open PySem L2
/-! ## what stands apart: a small logic of places -/
/-- never changed by what is walked -/
def Imm : HO → Bool
  | .tup _ | .xd _ | .rng _ _ | .met _ _ | .own _ => true
  | .frz _ (.lst _) | .frz _ (.tup _) => true
  | _ => false
def Keep (S : Addr → Prop) (H H' : Hp) : Prop := ∀ a o, H a = some o → (S a ∨ Imm o = true) → H' a = some o
theorem Keep.mono {S T : Addr → Prop} {H H' : Hp} (k : Keep T H H') (h : ∀ a, S a → T a) : Keep S H H' := fun a o e q => k a o e (q.imp (h a) id)
structure HA where
  P : Hp → (Addr → Prop) → Prop
  st : ∀ {H H' : Hp} {S : Addr → Prop}, P H S → Keep S H H' → P H' S
  mu : ∀ {H : Hp} {S : Addr → Prop} {a : Addr}, P H S → S a → ∃ o, H a = some o ∧ Imm o = false
def HL : List HA → Hp → (Addr → Prop) → Prop
  | [], _, S => ∀ a, ¬ S a
  | A :: L, H, S => ∃ S1 S2, A.P H S1 ∧ HL L H S2 ∧ (∀ a, S1 a → ¬ S2 a) ∧ ∀ a, S a ↔ S1 a ∨ S2 a
theorem HL.st : ∀ {L : List HA} {H H' : Hp} {S : Addr → Prop}, HL L H S → Keep S H H' → HL L H' S
  | [], _, _, _, h, _ => h
  | A :: L, H, H', S, ⟨S1, S2, h1, h2, hd, hs⟩, k => ⟨S1, S2, A.st h1 (k.mono fun a q => (hs a).mpr (.inl q)), HL.st h2 (k.mono fun a q => (hs a).mpr (.inr q)), hd, hs⟩
theorem HL.mu : ∀ {L : List HA} {H : Hp} {S : Addr → Prop} {a : Addr}, HL L H S → S a → ∃ o, H a = some o ∧ Imm o = false
  | [], _, _, a, h, q => (h a q).elim
  | A :: L, H, S, a, ⟨S1, S2, h1, h2, hd, hs⟩, q => by
    rcases (hs a).mp q with q | q
    · exact A.mu h1 q
    · exact HL.mu h2 q
def Holds (L : List HA) (H : Hp) : Prop := ∃ S, HL L H S
def Ent (L : List HA) (φ : Hp → Prop) : Prop := ∀ H, Holds L H → φ H
def Sub (L M : List HA) : Prop := ∀ H S, HL L H S → ∃ S', HL M H S' ∧ ∀ a, S' a → S a
section
variable {L M N R : List HA} {A B : HA} {φ ψ : Hp → Prop} {H H' : Hp} {S : Addr → Prop}
theorem Sub.refl : Sub L L := fun H S h => ⟨S, h, fun _ q => q⟩
theorem Sub.trans (a : Sub L M) (b : Sub M N) : Sub L N := fun H S h => by
  obtain ⟨S1, h1, q1⟩ := a H S h
  obtain ⟨S2, h2, q2⟩ := b H S1 h1
  exact ⟨S2, h2, fun a q => q1 a (q2 a q)⟩
theorem Sub.cons (a : Sub L M) : Sub (A :: L) (A :: M) := fun H S ⟨S1, S2, h1, h2, hd, hs⟩ => by
  obtain ⟨S3, h3, q3⟩ := a H S2 h2
  refine ⟨fun b => S1 b ∨ S3 b, ⟨S1, S3, h1, h3, fun b q k => hd b q (q3 b k), fun b => Iff.rfl⟩, fun b q => (hs b).mpr (q.imp id (q3 b))⟩
theorem Sub.swap : Sub (A :: B :: L) (B :: A :: L) := fun H S ⟨S1, S2, h1, ⟨S3, S4, h3, h4, hd2, hs2⟩, hd, hs⟩ => by
  refine ⟨S, ⟨S3, fun b => S1 b ∨ S4 b, h3, ⟨S1, S4, h1, h4, fun b q k => hd b q ((hs2 b).mpr (.inr k)), fun b => Iff.rfl⟩, fun b q k => ?_, fun b => ?_⟩, fun _ q => q⟩
  · rcases k with k | k
    · exact hd b k ((hs2 b).mpr (.inl q))
    · exact hd2 b q k
  · rw [hs b, hs2 b]
    constructor
    · rintro (q | q | q)
      · exact .inr (.inl q)
      · exact .inl q
      · exact .inr (.inr q)
    · rintro (q | q | q)
      · exact .inr (.inl q)
      · exact .inl q
      · exact .inr (.inr q)
theorem Sub.drop (a : Sub L M) : Sub (A :: L) M := fun H S ⟨S1, S2, h1, h2, hd, hs⟩ => by
  obtain ⟨S3, h3, q3⟩ := a H S2 h2
  exact ⟨S3, h3, fun b q => (hs b).mpr (.inr (q3 b q))⟩
theorem Sub.nil : Sub L [] := fun H S h => ⟨fun _ => False, fun a q => q, fun a q => q.elim⟩
theorem Sub.to (a : Sub L M) : Holds L H → Holds M H := fun ⟨S, h⟩ => by
  obtain ⟨S1, h1, _⟩ := a H S h
  exact ⟨S1, h1⟩
theorem Ent.sub (a : Sub L M) (e : Ent M φ) : Ent L φ := fun H h => e H (a.to h)
theorem Ent.up (f : ∀ H, φ H → ψ H) (e : Ent L φ) : Ent L ψ := fun H h => f H (e H h)
theorem Holds.go (h : Holds L H) (e : Ent L φ) : φ H := e H h
theorem Ent.pure {p : Prop} (h : p) : Ent L fun _ => p := fun _ _ => h
/-- A is one of L; R the rest -/
def Take (A : HA) (L R : List HA) : Prop := Sub L (A :: R)
theorem take_here : Take A (A :: L) L := Sub.refl
theorem take_there (t : Take A L R) : Take A (B :: L) (B :: R) := (Sub.cons t).trans Sub.swap
theorem Ent.take (t : Take A L R) (e : Ent (A :: R) φ) : Ent L φ := e.sub t
theorem Sub.take (t : Take A L R) (s : Sub R M) : Sub L (A :: M) := Sub.trans t (Sub.cons s)
/-! ### what is made of these -/
def ex {α : Sort _} (F : α → HA) : HA := ⟨fun H S => ∃ x, (F x).P H S, fun ⟨x, h⟩ k => ⟨x, (F x).st h k⟩, fun ⟨x, h⟩ q => (F x).mu h q⟩
def pu (p : Prop) : HA := ⟨fun _ S => p ∧ ∀ a, ¬ S a, fun h _ => h, fun h q => (h.2 _ q).elim⟩
def all (M : List HA) : HA := ⟨fun H S => HL M H S, fun h k => h.st k, fun h q => h.mu q⟩
theorem Ent.ex {α : Sort _} {F : α → HA} (e : ∀ x, Ent (F x :: L) φ) : Ent (ex F :: L) φ := fun H ⟨S, S1, S2, ⟨x, h1⟩, h⟩ => e x H ⟨S, S1, S2, h1, h⟩
theorem Ent.pu {p : Prop} (e : p → Ent L φ) : Ent (pu p :: L) φ := fun H ⟨S, S1, S2, h1, h2, _⟩ => e h1.1 H ⟨S2, h2⟩
theorem Sub.ex {α : Sort _} {F : α → HA} (x : α) (s : Sub L (F x :: M)) : Sub L (ex F :: M) := fun H S h => by
  obtain ⟨S', ⟨S1, S2, h1, h2⟩, q⟩ := s H S h
  exact ⟨S', ⟨S1, S2, ⟨x, h1⟩, h2⟩, q⟩
theorem Sub.pu {p : Prop} (h : p) (s : Sub L M) : Sub L (pu p :: M) := fun H S k => by
  obtain ⟨S', h1, q⟩ := s H S k
  exact ⟨S', ⟨fun _ => False, S', ⟨h, fun _ q => q⟩, h1, fun _ q => q.elim, fun a => ⟨.inr, fun z => z.elim (fun z => z.elim) id⟩⟩, q⟩
theorem HL.app : ∀ {M : List HA} {S : Addr → Prop}, HL (M ++ L) H S ↔ ∃ S1 S2, HL M H S1 ∧ HL L H S2 ∧ (∀ a, S1 a → ¬ S2 a) ∧ ∀ a, S a ↔ S1 a ∨ S2 a
  | [], S => ⟨fun h => ⟨fun _ => False, S, fun _ q => q, h, fun _ q => q.elim, fun a => ⟨.inr, fun z => z.elim (fun z => z.elim) id⟩⟩, fun ⟨S1, S2, h1, h2, _, hs⟩ => by
      have e : S = S2 := funext fun a => propext ⟨fun q => ((hs a).mp q).elim (fun z => (h1 a z).elim) id, fun q => (hs a).mpr (.inr q)⟩
      rw [e]
      exact h2⟩
  | A :: M, S => by
    constructor
    · rintro ⟨S1, S2, h1, h2, hd, hs⟩
      obtain ⟨S3, S4, h3, h4, hd2, hs2⟩ := HL.app.mp h2
      refine ⟨fun a => S1 a ∨ S3 a, S4, ⟨S1, S3, h1, h3, fun a q k => hd a q ((hs2 a).mpr (.inl k)), fun a => Iff.rfl⟩, h4, fun a q k => ?_, fun a => ?_⟩
      · rcases q with q | q
        · exact hd a q ((hs2 a).mpr (.inr k))
        · exact hd2 a q k
      · rw [hs a, hs2 a, or_assoc]
    · rintro ⟨S1, S2, ⟨S3, S4, h3, h4, hd2, hs2⟩, h2, hd, hs⟩
      refine ⟨S3, fun a => S4 a ∨ S2 a, h3, HL.app.mpr ⟨S4, S2, h4, h2, fun a q k => hd a ((hs2 a).mpr (.inr q)) k, fun a => Iff.rfl⟩, fun a q k => ?_, fun a => ?_⟩
      · rcases k with k | k
        · exact hd2 a q k
        · exact hd a ((hs2 a).mpr (.inl q)) k
      · rw [hs a, hs2 a, or_assoc]
theorem Sub.all_e : Sub (all M :: L) (M ++ L) := fun H S h => ⟨S, HL.app.mpr h, fun _ q => q⟩
theorem Sub.all_i : Sub (M ++ L) (all M :: L) := fun H S h => ⟨S, HL.app.mp h, fun _ q => q⟩
theorem Ent.all (e : Ent (M ++ L) φ) : Ent (all M :: L) φ := e.sub Sub.all_e
theorem Sub.all (s : Sub L (M ++ N)) : Sub L (all M :: N) := s.trans Sub.all_i
/-- nothing owned: may be used again and again -/
class Pers (A : HA) : Prop where
  no : ∀ {H : Hp} {S : Addr → Prop} {a : Addr}, A.P H S → ¬ S a
instance {p : Prop} : Pers (pu p) := ⟨fun h q => h.2 _ q⟩
theorem Sub.dup [Pers A] : Sub (A :: L) (A :: A :: L) := fun H S ⟨S1, S2, h1, h2, hd, hs⟩ =>
  ⟨S, ⟨S1, S, h1, ⟨S1, S2, h1, h2, hd, hs⟩, fun a q => (Pers.no h1 q).elim, fun a => ⟨.inr, fun z => z.elim (fun z => (hs a).mpr (.inl z)) id⟩⟩, fun _ q => q⟩
theorem take_p [Pers A] : Take A (A :: L) (A :: L) := Sub.dup
theorem Take.keep [Pers A] (t : Take A L R) : Take A L L := fun H S h => by
  obtain ⟨S1, h1, q1⟩ := t H S h
  obtain ⟨S2, S3, h2, _⟩ := h1
  exact ⟨S, ⟨S2, S, h2, h, fun a q => (Pers.no h2 q).elim, fun a => ⟨.inr, fun z => z.elim (fun z => (Pers.no h2 z).elim) id⟩⟩, fun _ q => q⟩
/-! ### places -/
def pt (a : Addr) (o : HO) : HA := ⟨fun H S => H a = some o ∧ Imm o = false ∧ ∀ b, S b ↔ b = a, fun ⟨h, i, s⟩ k => ⟨k a o h (.inl ((s a).mpr rfl)), i, s⟩, fun ⟨h, i, s⟩ q => by
  rw [(s _).mp q]
  exact ⟨o, h, i⟩⟩
/-- one of the things that never change -/
def im (a : Addr) (o : HO) : HA := ⟨fun H S => H a = some o ∧ Imm o = true ∧ ∀ b, ¬ S b, fun ⟨h, i, s⟩ k => ⟨k a o h (.inr i), i, s⟩, fun ⟨_, _, s⟩ q => (s _ q).elim⟩
instance {a : Addr} {o : HO} : Pers (im a o) := ⟨fun h q => h.2.2 _ q⟩
abbrev tu (a : Addr) (xs : List V) : HA := im a (.tup xs)
variable {a p : Addr} {o u : HO}
theorem Holds.pt_get : Holds (pt a o :: L) H → H a = some o := fun ⟨_, _, _, h, _⟩ => h.1
theorem Holds.im_get : Holds (im a o :: L) H → H a = some o := fun ⟨_, _, _, h, _⟩ => h.1
theorem Take.pt (t : Take (pt a o) L R) (h : Holds L H) : H a = some o := (t.to h).pt_get
theorem Take.im (t : Take (im a o) L R) (h : Holds L H) : H a = some o := (t.to h).im_get
theorem Holds.upd (h : Holds (pt a o :: R) H) (hi : Imm u = false) : Holds (pt a u :: R) (upd H a u) := by
  obtain ⟨S, S1, S2, ⟨h1, i1, s1⟩, h2, hd, hs⟩ := h
  refine ⟨S, S1, S2, ⟨upd_same, hi, s1⟩, h2.st fun b ob e q => ?_, hd, hs⟩
  have n : b ≠ a := by
    rintro rfl
    rcases q with q | q
    · exact hd b ((s1 b).mpr rfl) q
    · rw [h1] at e
      cases e
      rw [i1] at q
      cases q
  rw [upd_ne n]
  exact e
theorem HL.free (h : HL L H S) (n : H p = none) (o : HO) : HL L (L2.upd H p o) S := h.st fun b ob e _ => by
  rw [upd_ne (ne_of_none e n)]
  exact e
theorem Holds.new (h : Holds L H) (n : H p = none) (hi : Imm o = false) : Holds (pt p o :: L) (L2.upd H p o) := by
  obtain ⟨S, h⟩ := h
  refine ⟨fun b => b = p ∨ S b, fun b => b = p, S, ⟨upd_same, hi, fun b => Iff.rfl⟩, h.free n o, fun b e q => ?_, fun b => Iff.rfl⟩
  subst e
  obtain ⟨o', e, _⟩ := h.mu q
  rw [n] at e
  cases e
theorem Holds.newI (h : Holds L H) (n : H p = none) (hi : Imm o = true) : Holds (im p o :: L) (L2.upd H p o) := by
  obtain ⟨S, h⟩ := h
  exact ⟨S, fun _ => False, S, ⟨upd_same, hi, fun b q => q⟩, h.free n o, fun b e q => e, fun b => ⟨.inr, fun z => z.elim (fun z => z.elim) id⟩⟩
/-- more stands -/
theorem Holds.same (h : Holds L H) (s : Same H H') : Holds L H' := by
  obtain ⟨S, h⟩ := h
  exact ⟨S, h.st fun b o e _ => s b o e⟩
theorem Holds.addI (h : Holds L H) (e : H p = some o) (hi : Imm o = true) : Holds (im p o :: L) H := by
  obtain ⟨S, h⟩ := h
  exact ⟨S, fun _ => False, S, ⟨e, hi, fun b q => q⟩, h, fun b e q => e, fun b => ⟨.inr, fun z => z.elim (fun z => z.elim) id⟩⟩
end
end Toy
namespace Toy
open PySem L2
/-! ### lists and tuples that are read -/
def sq (K : PySem.W.Frag) (a : Addr) (xs : List V) : HA := ⟨fun H S => (pt a (.lst xs)).P H S ∨ ((∃ o, H a = some (.frz o (.lst xs))) ∨ ∃ (o : Obj) (its : Array Value) (n : Nat), K.lookup a = some o ∧ o.cls = .type "list" ∧ o.dict = none ∧ o.data = .seq its n ∧ its.size ≤ sizeLine ∧ Vals xs its.toList) ∧ ∀ b, ¬ S b,
  fun h k => by
    rcases h with h | ⟨⟨o, h⟩ | h, s⟩
    · exact .inl ((pt a (.lst xs)).st h k)
    · exact .inr ⟨.inl ⟨o, k a _ h (.inr rfl)⟩, s⟩
    · exact .inr ⟨.inr h, s⟩, fun h q => by
    rcases h with h | ⟨_, s⟩
    · exact (pt a (.lst xs)).mu h q
    · exact (s _ q).elim⟩
def tq (K : PySem.W.Frag) (a : Addr) (xs : List V) : HA := ⟨fun H S => SqT K H a xs ∧ ∀ b, ¬ S b, fun ⟨h, s⟩ k => ⟨by
    rcases h with (h | ⟨o, h⟩) | h
    · exact .inl (.inl (k a _ h (.inr rfl)))
    · exact .inl (.inr ⟨o, k a _ h (.inr rfl)⟩)
    · exact .inr h, s⟩, fun ⟨_, s⟩ q => (s _ q).elim⟩
instance {K : PySem.W.Frag} {a : Addr} {xs : List V} : Pers (tq K a xs) := ⟨fun h q => h.2 _ q⟩
/-- xs is read at a wherever L stands -/
def HasL (K : PySem.W.Frag) (L : List HA) (a : Addr) (xs : List V) : Prop := ∀ H, Holds L H → SqL K H a xs
def HasT (K : PySem.W.Frag) (L : List HA) (a : Addr) (xs : List V) : Prop := ∀ H, Holds L H → SqT K H a xs
section
variable {K : PySem.W.Frag} {L M R : List HA} {A B : HA} {σ τ : St} {Q : VK} {D : Ends} {nx bk ct : St → Hp → Prop} {rt : VK} {v x y : V} {te ta tb tc to ti : TE} {t u : TS} {c d : TT} {a b p l : Addr} {xs ys zs : List V} {f : Str} {C dx : Addr} {fs : List (Str × V)} {tas tk : TA}
theorem hasL_pt (h : Take (pt a (.lst xs)) L R) : HasL K L a xs := fun _ q => SqL.of (h.pt q)
theorem hasL_sq (h : Take (sq K a xs) L R) : HasL K L a xs := fun H q => by
  obtain ⟨S, S1, S2, h1, _⟩ := h.to q
  rcases h1 with h | ⟨⟨o, h⟩ | h, s⟩
  · exact SqL.of h.1
  · exact .inl (.inr ⟨o, h⟩)
  · exact .inr h
theorem hasT_tu (h : Take (tu a xs) L R) : HasT K L a xs := fun _ q => SqT.of (h.im q)
theorem hasT_tq (h : Take (tq K a xs) L R) : HasT K L a xs := fun H q => by
  obtain ⟨S, S1, S2, h1, _⟩ := h.to q
  exact h1.1
theorem holds_sq {H : Hp} (h : SqL K H a xs) : Holds [sq K a xs] H := by
  rcases h with (h | ⟨o, h⟩) | h
  · exact ⟨fun b => b = a, fun b => b = a, fun _ => False, .inl ⟨h, rfl, fun b => Iff.rfl⟩, fun _ q => q, fun _ _ q => q, fun b => ⟨.inl, fun z => z.elim id False.elim⟩⟩
  · exact ⟨fun _ => False, fun _ => False, fun _ => False, .inr ⟨.inl ⟨o, h⟩, fun _ q => q⟩, fun _ q => q, fun _ _ q => q, fun b => ⟨.inl, fun z => z.elim id id⟩⟩
  · exact ⟨fun _ => False, fun _ => False, fun _ => False, .inr ⟨.inr h, fun _ q => q⟩, fun _ q => q, fun _ _ q => q, fun b => ⟨.inl, fun z => z.elim id id⟩⟩
theorem holds_nil {H : Hp} : Holds [] H := ⟨fun _ => False, fun _ q => q⟩
/-! ### rules by the written part's name; readings with names -/
section
variable {X : Cx}
theorem cxOf_K {CX : CXT} {P : Program} {w : World} {mg : Str → Option Value} {base : Heap} {N : List Str} {qual : Str} {scope : Scope} {f : Addr} {cd : Value} {A : Around} {outer : List Env} {s : Shared} {H : Hp} {E : XK} : (cxOf CX P w K mg base N qual scope f cd A outer s H E).K = K := rfl
def rLenK (K : PySem.W.Frag) : List V → Hp → VK → Prop := fun xs H Q => ∃ p ys, xs = [.ref p] ∧ (SqL K H p ys ∨ SqT K H p ys) ∧ Q (.int ys.length) H
theorem call_lenK (h : X.K = K := by rfl) : CallR X (.builtin "len") (rLenK K) := h ▸ call_len_seq
def rListK (K : PySem.W.Frag) : List V → Hp → VK → Prop := fun xs H Q => ∃ p ys, xs = [.ref p] ∧ (SqL K H p ys ∨ SqT K H p ys) ∧ ∀ l, H l = none → Q (.ref l) (upd H l (.lst ys))
theorem call_listK (h : X.K = K := by rfl) : CallR X (.type "list") (rListK K) := h ▸ call_list_of
def rTupK (K : PySem.W.Frag) : List V → Hp → VK → Prop := fun xs H Q => ∃ p ys, xs = [.ref p] ∧ ((SqL K H p ys ∧ ∀ l, H l = none → Q (.ref l) (upd H l (.tup ys))) ∨ (SqT K H p ys ∧ Q (.ref p) H))
theorem call_tupK (h : X.K = K := by rfl) : CallR X (.type "tuple") (rTupK K) := h ▸ call_tuple_of
def rDivK : List V → Hp → VK → Prop := fun xs H Q => ∃ i j, xs = [.int i, .int j] ∧ CDiv i j ∧ ∀ p, H p = none → Q (.ref p) (upd H p (.tup [.int (i / j), .int (i % j)]))
theorem call_divK : CallR X (.builtin "divmod") rDivK := call_divmod
end
def kNewT (Q : VK) (xs : List V) (H : Hp) : Prop := xs.length ≤ sizeLine ∧ ∀ p, H p = none → Q (.ref p) (upd H p (.tup xs))
def kNewL (Q : VK) (xs : List V) (H : Hp) : Prop := xs.length ≤ sizeLine ∧ ∀ p, H p = none → Q (.ref p) (upd H p (.lst xs))
def kRgL (Q : VK) (a b : Int) (H : Hp) : Prop := RgOk a b ∧ ∀ q, H q = none → Q (.ref q) (upd H q (.lst (rgV a b)))
def kRgT (Q : VK) (a b : Int) (H : Hp) : Prop := RgOk a b ∧ ∀ q, H q = none → Q (.ref q) (upd H q (.tup (rgV a b)))
def kMake (C : Addr) (sp : Sp) (E : XK) (Q : VK) (vs : List V) (H : Hp) : Prop := ∀ x dx, H x = none → H dx = none → dx ≠ x → sp (.ref x :: vs) (upd (upd H dx (.own x)) x (.ins C dx [])) (fun v H2 => v = .non ∧ Q (.ref x) H2) E
def kMakeK (C : Addr) (j l : Nat) (sp : Sp) (gV : List V → List V → List V) (E : XK) (Q : VK) (vs zs : List V) (H : Hp) : Prop := vs.length = j ∧ zs.length = l ∧ ∀ x dx, H x = none → H dx = none → dx ≠ x → sp (gV (.ref x :: vs) zs) (upd (upd H dx (.own x)) x (.ins C dx [])) (fun v H2 => v = .non ∧ Q (.ref x) H2) E
/-! ### which kind of reading stands -/
theorem gS {t : TS} {D : Ends} (q : Ent L fun H => t D σ H) : Ent L fun H => t D σ H := q
theorem gE {t : TE} (q : Ent L fun H => t σ H Q) : Ent L fun H => t σ H Q := q
theorem gT {t : TT} {Q : Bool → Hp → Prop} (q : Ent L fun H => t σ H Q) : Ent L fun H => t σ H Q := q
theorem gA {t : TA} {Q : List V → Hp → Prop} (q : Ent L fun H => t σ H Q) : Ent L fun H => t σ H Q := q
theorem gR {r : R2} (q : Ent L fun H => r x y H Q) : Ent L fun H => r x y H Q := q
theorem gC {r : List V → Hp → VK → Prop} (q : Ent L fun H => r xs H Q) : Ent L fun H => r xs H Q := q
theorem gM {r : V → List V → Hp → VK → Prop} (q : Ent L fun H => r x xs H Q) : Ent L fun H => r x xs H Q := q
theorem gX {α : Sort _} {p : α → Hp → Prop} (q : Ent L fun H => ∃ x, p x H) : Ent L fun H => ∃ x, p x H := q
theorem gI {c : Prop} [Decidable c] {φ ψ : Hp → Prop} (q : Ent L fun H => if c then φ H else ψ H) : Ent L fun H => if c then φ H else ψ H := q
theorem gN {p : Prop} {φ : Hp → Prop} (q : Ent L fun H => p ∧ φ H) : Ent L fun H => p ∧ φ H := q
theorem gG {v : V} {t : TG} {Q : St → Hp → Prop} (q : Ent L fun H => t v σ H Q) : Ent L fun H => t v σ H Q := q
/-! ### steps that change nothing -/
theorem e_in {N : List Str} {vs : List V} (h : start N vs = σ) (q : Ent L fun H => t D σ H) : Ent L fun H => t D (start N vs) H := by rw [h]; exact q
theorem e_var {i : Nat} (h : σ[i]? = some (some v)) (q : Ent L fun H => Q v H) : Ent L fun H => tVar i σ H Q := fun H hH => ⟨v, h, q H hH⟩
theorem e_c (q : Ent L fun H => Q v H) : Ent L fun H => tC v σ H Q := q
theorem e_op {r : R2} (q : Ent L fun H => ta σ H fun x H1 => tb σ H1 fun y H2 => r x y H2 Q) : Ent L fun H => tOp r ta tb σ H Q := q
theorem e_un {r : V → Hp → VK → Prop} (q : Ent L fun H => ta σ H fun x H1 => r x H1 Q) : Ent L fun H => tUn r ta σ H Q := q
theorem e_I0 {g : Int → Int → V} {i j : Int} (q : Ent L fun H => Q (g i j) H) : Ent L fun H => rI0 g (.int i) (.int j) H Q := fun H h => ⟨i, j, rfl, rfl, q H h⟩
theorem e_I {C : Int → Int → Prop} {g : Int → Int → V} {i j : Int} (hc : C i j) (q : Ent L fun H => Q (g i j) H) : Ent L fun H => rI C g (.int i) (.int j) H Q := fun H h => ⟨i, j, rfl, rfl, hc, q H h⟩
theorem e_U {g : Int → V} {i : Int} (q : Ent L fun H => Q (g i) H) : Ent L fun H => rU g (.int i) H Q := fun H h => ⟨i, rfl, q H h⟩
theorem e_eq (h : scal x y = true) (q : Ent L fun H => Q (.bl (decide (x = y))) H) : Ent L fun H => rEq x y H Q := fun H k => ⟨h, q H k⟩
theorem e_eqII {i j : Int} (q : Ent L fun H => Q (.bl (decide (i = j))) H) : Ent L fun H => rEq (.int i) (.int j) H Q := fun H k => ⟨rfl, by rw [dec_vint]; exact q H k⟩
theorem e_neII {i j : Int} (q : Ent L fun H => Q (.bl (!decide (i = j))) H) : Ent L fun H => rNe (.int i) (.int j) H Q := fun H k => ⟨rfl, by rw [dec_vint]; exact q H k⟩
theorem e_ne (h : scal x y = true) (q : Ent L fun H => Q (.bl (!decide (x = y))) H) : Ent L fun H => rNe x y H Q := fun H k => ⟨h, q H k⟩
theorem e_cb {r : List V → Hp → VK → Prop} (q : Ent L fun H => tas σ H fun vs H1 => r vs H1 Q) : Ent L fun H => tCB r tas σ H Q := q
theorem e_nil {Q : List V → Hp → Prop} (q : Ent L fun H => Q [] H) : Ent L fun H => tNil σ H Q := q
theorem e_cons {Q : List V → Hp → Prop} (q : Ent L fun H => ta σ H fun x H1 => tas σ H1 fun xs H2 => Q (x :: xs) H2) : Ent L fun H => tCons ta tas σ H Q := q
theorem e_call {sp : Sp} {dvs : List V} {E : XK} (q : Ent L fun H => tas σ H fun vs H1 => sp (vs ++ dvs) H1 Q E) : Ent L fun H => tCall sp dvs E tas σ H Q := q
theorem e_callS {sp : Sp} {E : St → XK} (q : Ent L fun H => tas σ H fun vs H1 => sp vs H1 Q (E σ)) : Ent L fun H => tCallS sp E tas σ H Q := q
theorem e_callN {j l : Nat} {sp : Sp} {gV : List V → List V → List V} {E : XK} (q : Ent L fun H => tas σ H fun vs H1 => tk σ H1 fun zs H2 => vs.length = j ∧ zs.length = l ∧ sp (gV vs zs) H2 Q E) : Ent L fun H => tCallN j l sp gV E tas tk σ H Q := q
theorem e_methN {C : Addr} {m : Str} {j l : Nat} {sp : Sp} {gV : List V → List V → List V} {E : XK} (q : Ent L fun H => ta σ H fun x H1 => ∃ a dx fs, x = .ref a ∧ H1 a = some (.ins C dx fs) ∧ fs.lookup m = none ∧ tas σ H1 fun vs H2 => tk σ H2 fun zs H3 => vs.length = j ∧ zs.length = l ∧ sp (gV (x :: vs) zs) H3 Q E) : Ent L fun H => tMethN C m j l sp gV E ta tas tk σ H Q := q
theorem e_methS {C : Addr} {m : Str} {sp : Sp} {E : St → XK} (q : Ent L fun H => ta σ H fun x H1 => ∃ a dx fs, x = .ref a ∧ H1 a = some (.ins C dx fs) ∧ fs.lookup m = none ∧ tas σ H1 fun vs H2 => sp (x :: vs) H2 Q (E σ)) : Ent L fun H => tMethSx C m sp E ta tas σ H Q := q
theorem e_ln {α : Type} {xs : List α} {n : Nat} {φ : Hp → Prop} (h : xs.length = n) (q : Ent L φ) : Ent L fun H => xs.length = n ∧ φ H := fun H k => ⟨h, q H k⟩
theorem e_meth0 {C : Addr} {m : Str} {sp : Sp} {dvs : List V} {E : XK} (q : Ent L fun H => ta σ H fun x H1 => ∃ a dx fs, x = .ref a ∧ H1 a = some (.ins C dx fs) ∧ fs.lookup m = none ∧ tas σ H1 fun vs H2 => sp (x :: (vs ++ dvs)) H2 Q E) : Ent L fun H => tMeth C m sp dvs E ta tas σ H Q := q
theorem e_meth {φ : Hp → Prop} {m : Str} (h : Take (pt a (.ins C dx fs)) L R) (hl : fs.lookup m = none) (q : Ent L φ) : Ent L fun H => ∃ a' dx fs, V.ref a = .ref a' ∧ H a' = some (.ins C dx fs) ∧ fs.lookup m = none ∧ φ H := fun H k => ⟨a, dx, fs, rfl, h.pt k, hl, q H k⟩
theorem e_prop0 {C : Addr} {sp : Sp} {dvs : List V} {E : XK} (q : Ent L fun H => ta σ H fun x H1 => ∃ a dx fs, x = .ref a ∧ H1 a = some (.ins C dx fs) ∧ sp (.ref a :: dvs) H1 Q E) : Ent L fun H => tProp C sp dvs E ta σ H Q := q
theorem e_prop {sp : Sp} {dvs : List V} {E : XK} (h : Take (pt a (.ins C dx fs)) L R) (q : Ent L fun H => sp (.ref a :: dvs) H Q E) : Ent L fun H => ∃ a' dx fs, V.ref a = .ref a' ∧ H a' = some (.ins C dx fs) ∧ sp (.ref a' :: dvs) H Q E := fun H k => ⟨a, dx, fs, rfl, h.pt k, q H k⟩
theorem e_seq (q : Ent L fun H => t ⟨u ⟨nx, rt, bk, ct⟩, rt, bk, ct⟩ σ H) : Ent L fun H => tSeq t u ⟨nx, rt, bk, ct⟩ σ H := q
theorem e_next (q : Ent L fun H => nx σ H) : Ent L fun H => tNext ⟨nx, rt, bk, ct⟩ σ H := q
theorem e_brk (q : Ent L fun H => bk σ H) : Ent L fun H => tBreak ⟨nx, rt, bk, ct⟩ σ H := q
theorem e_cont (q : Ent L fun H => ct σ H) : Ent L fun H => tCont ⟨nx, rt, bk, ct⟩ σ H := q
theorem e_drop (q : Ent L fun H => te σ H fun _ H1 => nx σ H1) : Ent L fun H => tDrop te ⟨nx, rt, bk, ct⟩ σ H := q
theorem e_ret (q : Ent L fun H => te σ H rt) : Ent L fun H => tRet te ⟨nx, rt, bk, ct⟩ σ H := q
theorem e_retN (q : Ent L fun H => rt .non H) : Ent L fun H => tRetN ⟨nx, rt, bk, ct⟩ σ H := q
theorem e_asg {g : TG} (q : Ent L fun H => te σ H fun x H1 => g x σ H1 nx) : Ent L fun H => tAsg te g ⟨nx, rt, bk, ct⟩ σ H := q
theorem e_ifs (q : Ent L fun H => c σ H fun b H1 => if b = true then t ⟨nx, rt, bk, ct⟩ σ H1 else u ⟨nx, rt, bk, ct⟩ σ H1) : Ent L fun H => tIfS c t u ⟨nx, rt, bk, ct⟩ σ H := q
theorem e_par {i j : Nat} (q : Ent L fun H => tas σ H fun vs H1 => ∃ v w, vs = [v, w] ∧ nx ((σ.set i (some v)).set j (some w)) H1) : Ent L fun H => tPar i j tas ⟨nx, rt, bk, ct⟩ σ H := q
theorem e_par3 {i j l : Nat} (q : Ent L fun H => tas σ H fun vs H1 => ∃ u v w, vs = [u, v, w] ∧ nx (((σ.set i (some u)).set j (some v)).set l (some w)) H1) : Ent L fun H => tPar3 i j l tas ⟨nx, rt, bk, ct⟩ σ H := q
theorem e_uvw {u v w : V} {r : V → V → V → Hp → Prop} (q : Ent L (r u v w)) : Ent L fun H => ∃ u' v' w', [u, v, w] = [u', v', w'] ∧ r u' v' w' H := fun H k => ⟨u, v, w, rfl, q H k⟩
theorem e_vw {v w : V} {r : V → V → Hp → Prop} (q : Ent L (r v w)) : Ent L fun H => ∃ v' w', [v, w] = [v', w'] ∧ r v' w' H := fun H k => ⟨v, w, rfl, q H k⟩
theorem e_if0 (q : Ent L fun H => c σ H fun b H1 => if b = true then ta σ H1 Q else tb σ H1 Q) : Ent L fun H => tIf c ta tb σ H Q := q
theorem e_test {Q : Bool → Hp → Prop} (q : Ent L fun H => te σ H fun x H' => ∃ k, x = .bl k ∧ Q k H') : Ent L fun H => tTest te σ H Q := q
theorem e_B {Q : Bool → Hp → Prop} (q : Ent L fun H => te σ H fun x H' => ∃ k, x = .bl k ∧ Q k H') : Ent L fun H => tB te σ H Q := q
theorem e_and {Q : Bool → Hp → Prop} (q : Ent L fun H => c σ H fun b H1 => if b = true then d σ H1 Q else Q false H1) : Ent L fun H => tAnd c d σ H Q := q
theorem e_or {Q : Bool → Hp → Prop} (q : Ent L fun H => c σ H fun b H1 => if b = true then Q true H1 else d σ H1 Q) : Ent L fun H => tOr c d σ H Q := q
theorem e_not {Q : Bool → Hp → Prop} (q : Ent L fun H => c σ H fun b H1 => Q (!b) H1) : Ent L fun H => tNot c σ H Q := q
theorem e_andV (q : Ent L fun H => ta σ H fun x H1 => ∃ k, x = .bl k ∧ if k = true then tb σ H1 Q else Q (.bl false) H1) : Ent L fun H => tAndV ta tb σ H Q := q
theorem e_orV (q : Ent L fun H => ta σ H fun x H1 => ∃ k, x = .bl k ∧ if k = true then Q (.bl true) H1 else tb σ H1 Q) : Ent L fun H => tOrV ta tb σ H Q := q
theorem e_notV (q : Ent L fun H => ta σ H fun x H1 => ∃ k, x = .bl k ∧ Q (.bl (!k)) H1) : Ent L fun H => tNotV ta σ H Q := q
theorem e_bl {b : Bool} {r : Bool → Hp → Prop} (q : Ent L (r b)) : Ent L fun H => ∃ k, V.bl b = .bl k ∧ r k H := fun H k => ⟨b, rfl, q H k⟩
theorem e_iI {i : Int} {r : Int → Hp → Prop} (q : Ent L (r i)) : Ent L fun H => ∃ k, [V.int i] = [.int k] ∧ r k H := fun H k => ⟨i, rfl, q H k⟩
theorem e_iIJ {i j : Int} {r : Int → Int → Hp → Prop} (q : Ent L (r i j)) : Ent L fun H => ∃ k l, [V.int i, V.int j] = [.int k, .int l] ∧ r k l H := fun H k => ⟨i, j, rfl, q H k⟩
theorem e_ei {i : Int} {r : Int → Hp → Prop} (q : Ent L (r i)) : Ent L fun H => ∃ k, V.int i = .int k ∧ r k H := fun H k => ⟨i, rfl, q H k⟩
theorem e_eij {i j : Int} {r : Int → Int → Hp → Prop} (q : Ent L (r i j)) : Ent L fun H => ∃ k l, V.int i = .int k ∧ V.int j = .int l ∧ r k l H := fun H k => ⟨i, j, rfl, rfl, q H k⟩
theorem e_int1 {i : Int} {r : Int → Hp → Prop} {s : Bool → Hp → Prop} (q : Ent L (r i)) : Ent L fun H => (∃ k, [V.int i] = [.int k] ∧ r k H) ∨ ∃ b, [V.int i] = [.bl b] ∧ s b H := fun H k => .inl ⟨i, rfl, q H k⟩
theorem e_intB {b : Bool} {r : Int → Hp → Prop} {s : Bool → Hp → Prop} (q : Ent L (s b)) : Ent L fun H => (∃ k, [V.bl b] = [.int k] ∧ r k H) ∨ ∃ c, [V.bl b] = [.bl c] ∧ s c H := fun H k => .inr ⟨b, rfl, q H k⟩
theorem e_lenL (h : HasL K L a xs) (q : Ent L (Q (.int xs.length))) : Ent L fun H => rLenK K [.ref a] H Q := fun H k => ⟨a, xs, rfl, .inl (h H k), q H k⟩
theorem e_lenT (h : HasT K L a xs) (q : Ent L (Q (.int xs.length))) : Ent L fun H => rLenK K [.ref a] H Q := fun H k => ⟨a, xs, rfl, .inr (h H k), q H k⟩
theorem e_gname {i : Nat} {Q : St → Hp → Prop} (q : Ent L fun H => Q (σ.set i (some v)) H) : Ent L fun H => gName i v σ H Q := q
theorem e_gtup {n : Nat} {ts : TGs} {Q : St → Hp → Prop} (h : HasT K L a xs) (hn : xs.length = n) (q : Ent L fun H => ts xs σ H Q) : Ent L fun H => gTup K n ts (.ref a) σ H Q := fun H k => ⟨a, xs, rfl, h H k, hn, q H k⟩
theorem e_gcons {tg : TG} {ts : TGs} {r : List V} {Q : St → Hp → Prop} (q : Ent L fun H => tg v σ H fun σ' H' => ts r σ' H' Q) : Ent L fun H => gCons tg ts (v :: r) σ H Q := fun H k => ⟨v, r, rfl, q H k⟩
theorem e_gnil {Q : St → Hp → Prop} (q : Ent L fun H => Q σ H) : Ent L fun H => gNil [] σ H Q := fun H k => ⟨rfl, q H k⟩
theorem e_gsub {ts : TSet} {Q : St → Hp → Prop} (q : Ent L fun H => to σ H fun o H1 => ti σ H1 fun i H2 => ts o i v H2 fun H3 => Q σ H3) : Ent L fun H => gSub to ti ts v σ H Q := q
theorem e_fld0 (q : Ent L fun H => ta σ H fun x H1 => kFld K f Q x H1) : Ent L fun H => tFld K ta f σ H Q := q
theorem e_fld (h : Take (pt a (.ins C dx fs)) L R) (hc : Cls K C) (hn : NoAttr K C f) (hl : fs.lookup f = some v) (q : Ent L fun H => Q v H) : Ent L fun H => kFld K f Q (.ref a) H := fun H k => ⟨a, C, dx, fs, v, rfl, h.pt k, hc, hn, hl, q H k⟩
theorem e_sfld0 (q : Ent L fun H => tb σ H fun y H1 => ta σ H1 fun x H2 => kSF K f nx σ y x H2) : Ent L fun H => sFld K ta tb f ⟨nx, rt, bk, ct⟩ σ H := q
theorem e_ixL {i : Int} (h : HasL K L a xs) (hi : atI xs i = some v) (q : Ent L fun H => Q v H) : Ent L fun H => rIxL K (.ref a) (.int i) H Q := fun H k => ⟨a, xs, i, v, rfl, rfl, h H k, hi, q H k⟩
theorem e_ixT {i : Int} (h : HasT K L a xs) (hi : atI xs i = some v) (q : Ent L fun H => Q v H) : Ent L fun H => rIxT K (.ref a) (.int i) H Q := fun H k => ⟨a, xs, i, v, rfl, rfl, h H k, hi, q H k⟩
theorem e_bm {T : String} {r : V → List V → Hp → VK → Prop} (h : Ent L fun H => to σ H fun x H1 => tyV K T x H1 ∧ tas σ H1 fun xs H2 => r x xs H2 Q) : Ent L fun H => tBM K T r to tas σ H Q := h
theorem e_bm0 {T : String} {r : V → List V → Hp → VK → Prop} (h : Ent L fun H => to σ H fun x H1 => tyV K T x H1 ∧ r x [] H1 Q) : Ent L fun H => tBM0 K T r to σ H Q := h
theorem e_tyL {φ : Hp → Prop} (h : HasL K L a xs) (q : Ent L φ) : Ent L fun H => tyV K "list" (.ref a) H ∧ φ H := fun H k => ⟨.inl ⟨rfl, xs, h H k⟩, q H k⟩
theorem e_chain {r r' : R2} (q : Ent L fun H => ta σ H fun x H1 => tb σ H1 fun y H2 => r x y H2 fun z H3 => ∃ k, z = .bl k ∧ (if k = true then tc σ H3 fun w' H4 => r' y w' H4 Q else Q (.bl false) H3)) : Ent L fun H => tChain r r' ta tb tc σ H Q := q
theorem e_sl {r : V → Option Int → Option Int → Hp → VK → Prop} {tl th : TO} (q : Ent L fun H => te σ H fun x H1 => tl σ H1 fun l H2 => th σ H2 fun u H3 => r x l u H3 Q) : Ent L fun H => tSl r te tl th σ H Q := q
theorem e_nopart {Q : Option Int → Hp → Prop} (q : Ent L fun H => Q none H) : Ent L fun H => tNoPart σ H Q := q
theorem e_part {Q : Option Int → Hp → Prop} (q : Ent L fun H => te σ H fun x H1 => ∃ i, x = .int i ∧ Q (some i) H1) : Ent L fun H => tPart te σ H Q := q
theorem e_inL {neg : Bool} {x : V} (h : HasL K L a xs) (h1 : flatV x = true) (h2 : xs.all flatV = true) (q : Ent L fun H => Q (.bl (if neg then !inV x xs else inV x xs)) H) : Ent L fun H => rIn K neg x (.ref a) H Q := fun H k => ⟨a, xs, rfl, .inl (h H k), h1, h2, q H k⟩
theorem e_inT {neg : Bool} {x : V} (h : HasT K L a xs) (h1 : flatV x = true) (h2 : xs.all flatV = true) (q : Ent L fun H => Q (.bl (if neg then !inV x xs else inV x xs)) H) : Ent L fun H => rIn K neg x (.ref a) H Q := fun H k => ⟨a, xs, rfl, .inr (h H k), h1, h2, q H k⟩
theorem e_yes {Q : Bool → Hp → Prop} (q : Ent L fun H => Q true H) : Ent L fun H => tYes σ H Q := q
theorem e_ea {σ2 : L2.St} {vs : List Nat} {φ : Hp → Prop} (h : wipe σ2 vs = wipe σ vs) (q : Ent L φ) : Ent L fun H => wipe σ2 vs = wipe σ vs ∧ φ H := fun H k => ⟨h, q H k⟩
theorem e_isN (q : Ent L fun H => Q (.bl (decide (x = .non))) H) : Ent L fun H => Q (.bl (decide (x = .non))) H := q
theorem e_cut (M : List HA) (τ : St) (q : Ent L fun H => t ⟨fun σ' H' => σ' = τ ∧ Holds M H', rt, bk, ct⟩ σ H) (k : Ent M fun H => u ⟨nx, rt, bk, ct⟩ τ H) : Ent L fun H => Evl.tCut t u ⟨nx, rt, bk, ct⟩ σ H := fun H h =>
  ⟨_, q H h, fun σ' H' ⟨e, z⟩ => by subst e; exact k H' z⟩
theorem e_cutS (M : List HA) (q : Ent L fun H => t ⟨fun σ' H' => σ' = σ ∧ Holds M H', rt, bk, ct⟩ σ H) (k : Ent M fun H => u ⟨nx, rt, bk, ct⟩ σ H) : Ent L fun H => Evl.tCut t u ⟨nx, rt, bk, ct⟩ σ H := e_cut M σ q k
/-- ways joined behind a statement: by what is known of the slots and places -/
theorem e_cutB {β : Type} (sg : β → St) (M : β → List HA) (q : Ent L fun H => t ⟨fun σ' H' => ∃ b, σ' = sg b ∧ Holds (M b) H', rt, bk, ct⟩ σ H) (k : ∀ b, Ent (M b) fun H => u ⟨nx, rt, bk, ct⟩ (sg b) H) : Ent L fun H => Evl.tCut t u ⟨nx, rt, bk, ct⟩ σ H := fun H h =>
  ⟨_, q H h, fun σ' H' ⟨b, e, z⟩ => by subst e; exact k b H' z⟩
theorem e_end {β : Type} {sg : β → St} {M : β → List HA} (b : β) (h : σ = sg b) (s : Sub L (M b)) : Ent L fun H => ∃ b, σ = sg b ∧ Holds (M b) H := fun H q => ⟨b, h, s.to q⟩
theorem e_end1 (h : σ = τ) (s : Sub L M) : Ent L fun H => σ = τ ∧ Holds M H := fun H q => ⟨h, s.to q⟩
theorem e_holds (s : Sub L M) : Ent L (Holds M) := fun H q => s.to q
/-! ### tests -/
theorem eT {φ ψ : Hp → Prop} (q : Ent L φ) : Ent L fun H => if true = true then φ H else ψ H := fun H k => iteT (q H k)
theorem eF {φ ψ : Hp → Prop} (q : Ent L ψ) : Ent L fun H => if false = true then φ H else ψ H := fun H k => iteF (q H k)
theorem eNT {φ ψ : Hp → Prop} (q : Ent L ψ) : Ent L fun H => if (!true) = true then φ H else ψ H := fun H k => iteNT (q H k)
theorem eNF {φ ψ : Hp → Prop} (q : Ent L φ) : Ent L fun H => if (!false) = true then φ H else ψ H := fun H k => iteNF (q H k)
theorem eDT {c : Prop} [Decidable c] {φ ψ : Hp → Prop} (h : c) (q : Ent L φ) : Ent L fun H => if decide c = true then φ H else ψ H := fun H k => ifT h (q H k)
theorem eDF {c : Prop} [Decidable c] {φ ψ : Hp → Prop} (h : ¬ c) (q : Ent L ψ) : Ent L fun H => if decide c = true then φ H else ψ H := fun H k => ifF h (q H k)
theorem eNDT {c : Prop} [Decidable c] {φ ψ : Hp → Prop} (h : c) (q : Ent L ψ) : Ent L fun H => if (!decide c) = true then φ H else ψ H := fun H k => ifT' h (q H k)
theorem eNDF {c : Prop} [Decidable c] {φ ψ : Hp → Prop} (h : ¬ c) (q : Ent L φ) : Ent L fun H => if (!decide c) = true then φ H else ψ H := fun H k => ifF' h (q H k)
theorem eB {b : Bool} {φ ψ : Hp → Prop} (h1 : b = true → Ent L φ) (h2 : b = false → Ent L ψ) : Ent L fun H => if b = true then φ H else ψ H := fun H k => ifB (fun e => h1 e H k) (fun e => h2 e H k)
theorem eS {c : Prop} [Decidable c] {φ ψ : Hp → Prop} (h1 : c → Ent L φ) (h2 : ¬ c → Ent L ψ) : Ent L fun H => if decide c = true then φ H else ψ H := fun H k => ifS (fun e => h1 e H k) (fun e => h2 e H k)
theorem eNS {c : Prop} [Decidable c] {φ ψ : Hp → Prop} (h1 : c → Ent L ψ) (h2 : ¬ c → Ent L φ) : Ent L fun H => if (!decide c) = true then φ H else ψ H := fun H k => ifS' (fun e => h1 e H k) (fun e => h2 e H k)
/-- both ways of a test end alike -/
theorem e_boolD {φ : Bool → Hp → Prop} {b b' : Bool} (h : b = b') (q : Ent L (φ b')) : Ent L (φ b) := h ▸ q
/-! ### steps that change the heap -/
theorem e_tup (q : Ent L fun H => tas σ H (kNewT Q)) : Ent L fun H => tTup tas σ H Q := q
theorem e_lst (q : Ent L fun H => tas σ H (kNewL Q)) : Ent L fun H => tLst tas σ H Q := q
theorem e_newT (h : xs.length ≤ 100000) (q : ∀ p, Ent (tu p xs :: L) (Q (.ref p))) : Ent L fun H => kNewT Q xs H := fun H k => ⟨Nat.le_trans h (by decide), fun p n => q p _ (k.newI n rfl)⟩
theorem e_newL (h : xs.length ≤ 100000) (q : ∀ p, Ent (pt p (.lst xs) :: L) (Q (.ref p))) : Ent L fun H => kNewL Q xs H := fun H k => ⟨Nat.le_trans h (by decide), fun p n => q p _ (k.new n rfl)⟩
theorem e_div {i j : Int} (h : CDiv i j) (q : ∀ p, Ent (tu p [.int (i / j), .int (i % j)] :: L) (Q (.ref p))) : Ent L fun H => rDivK [.int i, .int j] H Q := fun H k => ⟨i, j, rfl, h, fun p n => q p _ (k.newI n rfl)⟩
theorem e_setL {i : Int} {j : Nat} {φ : Hp → Prop} (h : Take (pt a (.lst xs)) L R) (hi : ixN xs.length i = some j) (q : Ent (pt a (.lst (xs.set j v)) :: R) φ) : Ent L fun H => rSetL (.ref a) (.int i) v H φ := fun H k => ⟨a, xs, i, j, rfl, rfl, h.pt k, hi, q _ ((h.to k).upd rfl)⟩
theorem e_sfld {fs' : List (Str × V)} (h : Take (pt a (.ins C dx fs)) L R) (hc : Cls K C) (hn : NoAttr K C f) (hl : fs.length < 1000) (he : putF f y fs = fs') (q : Ent (pt a (.ins C dx fs') :: R) (nx σ)) : Ent L fun H => kSF K f nx σ y (.ref a) H := fun H k =>
  ⟨a, C, dx, fs, rfl, h.pt k, hc, hn, hl, by rw [he]; exact q _ ((h.to k).upd rfl)⟩
theorem e_app {y : V} (h : Take (pt l (.lst xs)) L R) (hz : xs.length ≤ 100000) (q : Ent (pt l (.lst (xs ++ [y])) :: R) (Q .non)) : Ent L fun H => rAppend (.ref l) [y] H Q := fun H k => ⟨l, xs, y, rfl, rfl, h.pt k, Nat.lt_of_le_of_lt hz (by decide), q _ ((h.to k).upd rfl)⟩
theorem e_pop {y : V} (h : Take (pt l (.lst xs)) L R) (hy : xs[xs.length - 1]? = some y) (q : Ent (pt l (.lst xs.dropLast) :: R) (Q y)) : Ent L fun H => rPop (.ref l) [] H Q := fun H k => ⟨l, xs, y, rfl, rfl, h.pt k, hy, q _ ((h.to k).upd rfl)⟩
theorem e_popAt {y : V} {i : Int} {j : Nat} (h : Take (pt l (.lst xs)) L R) (h0 : -1000000 ≤ i ∧ i ≤ 1000000) (hj : seqIndex? i xs.length = some j) (hy : xs[j]? = some y) (q : Ent (pt l (.lst (xs.eraseIdx j)) :: R) (Q y)) : Ent L fun H => rPopAt (.ref l) [.int i] H Q := fun H k => ⟨l, xs, i, j, y, rfl, rfl, h.pt k, by omega, by omega, hj, hy, q _ ((h.to k).upd rfl)⟩
theorem e_ext (h1 : Take (pt l (.lst xs)) L R) (h2 : Take (pt b (.lst zs)) R M) (hz : xs.length + zs.length ≤ 100000) (q : Ent (pt l (.lst (xs ++ zs)) :: R) (Q .non)) : Ent L fun H => rExtend (.ref l) [.ref b] H Q := fun H k => ⟨l, b, xs, zs, rfl, rfl, h1.pt k, h2.pt (Sub.to (Sub.drop Sub.refl) (h1.to k)), Nat.le_trans hz (by decide), q _ ((h1.to k).upd rfl)⟩
theorem e_clear (h : Take (pt l (.lst xs)) L R) (q : Ent (pt l (.lst []) :: R) (Q .non)) : Ent L fun H => rClear (.ref l) [] H Q := fun H k => ⟨l, xs, rfl, rfl, h.pt k, q _ ((h.to k).upd rfl)⟩
theorem e_reverse (h : Take (pt l (.lst xs)) L R) (q : Ent (pt l (.lst xs.reverse) :: R) (Q .non)) : Ent L fun H => rReverse (.ref l) [] H Q := fun H k => ⟨l, xs, rfl, rfl, h.pt k, q _ ((h.to k).upd rfl)⟩
theorem e_cat {R' : List HA} (h1 : Take (pt l (.lst xs)) L R) (h2 : Take (pt b (.lst zs)) L R') (hz : xs.length + zs.length ≤ 100000) (q : ∀ p, Ent (pt p (.lst (xs ++ zs)) :: L) (Q (.ref p))) : Ent L fun H => rCat (.ref l) (.ref b) H Q := fun H k => ⟨l, b, xs, zs, rfl, rfl, h1.pt k, h2.pt k, Nat.le_trans hz (by decide), fun p n => q p _ (k.new n rfl)⟩
theorem e_slL {lo hi : Option Int} (h : HasL K L a xs) (q : ∀ p, Ent (pt p (.lst (cutV xs lo hi)) :: L) (Q (.ref p))) : Ent L fun H => rSlL K (.ref a) lo hi H Q := fun H k => ⟨a, xs, rfl, h H k, fun p n => q p _ (k.new n rfl)⟩
theorem e_slT {lo hi : Option Int} (h : HasT K L a xs) (hw : ¬ (HT.sIx xs.length 0 lo = 0 ∧ HT.sIx xs.length xs.length hi = xs.length)) (q : ∀ p, Ent (tu p (cutV xs lo hi) :: L) (Q (.ref p))) : Ent L fun H => rSlT K (.ref a) lo hi H Q := fun H k => ⟨a, xs, rfl, h H k, hw, fun p n => q p _ (k.newI n rfl)⟩
theorem e_rev0 (q : Ent L fun H => te σ H fun x H1 => kRev K Q x H1) : Ent L fun H => tRevL K te σ H Q := q
theorem e_rev (h : HasL K L a xs) (q : ∀ p, Ent (pt p (.lst xs.reverse) :: L) (Q (.ref p))) : Ent L fun H => kRev K Q (.ref a) H := fun H k => ⟨a, xs, rfl, h H k, fun p n => q p _ (k.new n rfl)⟩
theorem e_rep {k : Int} (h : Take (pt a (.lst xs)) L R) (h1 : -100000 ≤ k) (h2 : k ≤ 100000) (hz : xs.length ≤ 100) (q : ∀ p, Ent (pt p (.lst (List.replicate k.toNat xs).flatten) :: L) (Q (.ref p))) : Ent L fun H => rRep (.ref a) (.int k) H Q := fun H z =>
  w_rep (h.pt z) h1 h2 hz fun p n => q p _ (z.new n rfl)
theorem e_listOf (h : HasL K L a xs) (q : ∀ p, Ent (pt p (.lst xs) :: L) (Q (.ref p))) : Ent L fun H => rListK K [.ref a] H Q := fun H k => ⟨a, xs, rfl, .inl (h H k), fun p n => q p _ (k.new n rfl)⟩
theorem e_listOfT (h : HasT K L a xs) (q : ∀ p, Ent (pt p (.lst xs) :: L) (Q (.ref p))) : Ent L fun H => rListK K [.ref a] H Q := fun H k => ⟨a, xs, rfl, .inr (h H k), fun p n => q p _ (k.new n rfl)⟩
theorem e_tupOf (h : HasL K L a xs) (q : ∀ p, Ent (tu p xs :: L) (Q (.ref p))) : Ent L fun H => rTupK K [.ref a] H Q := fun H k => ⟨a, xs, rfl, .inl ⟨h H k, fun p n => q p _ (k.newI n rfl)⟩⟩
theorem e_tupOfT (h : HasT K L a xs) (q : Ent L (Q (.ref a))) : Ent L fun H => rTupK K [.ref a] H Q := fun H k => ⟨a, xs, rfl, .inr ⟨h H k, q H k⟩⟩
theorem e_lstRg {te : L2.St → Hp → (Int → Int → Hp → Prop) → Prop} (q : Ent L fun H => te σ H (kRgL Q)) : Ent L fun H => tLstRg te σ H Q := q
theorem e_tupRg {te : L2.St → Hp → (Int → Int → Hp → Prop) → Prop} (q : Ent L fun H => te σ H (kRgT Q)) : Ent L fun H => tTupRg te σ H Q := q
theorem e_rgL {i j : Int} (h : 0 ≤ i ∧ j ≤ 16777216 ∧ i ≤ 16777216 ∧ 0 ≤ j) (q : ∀ p, Ent (pt p (.lst (rgV i j)) :: L) (Q (.ref p))) : Ent L fun H => kRgL Q i j H := fun H k => ⟨RgOk.of_le h.1 h.2.1 h.2.2.1 h.2.2.2, fun p n => q p _ (k.new n rfl)⟩
theorem e_rgT {i j : Int} (h : 0 ≤ i ∧ j ≤ 16777216 ∧ i ≤ 16777216 ∧ 0 ≤ j) (q : ∀ p, Ent (tu p (rgV i j) :: L) (Q (.ref p))) : Ent L fun H => kRgT Q i j H := fun H k => ⟨RgOk.of_le h.1 h.2.1 h.2.2.1 h.2.2.2, fun p n => q p _ (k.newI n rfl)⟩
theorem e_rg1 {Q : Int → Int → Hp → Prop} (q : Ent L fun H => ta σ H fun x H1 => ∃ n, x = .int n ∧ Q 0 n H1) : Ent L fun H => tRg1 ta σ H Q := q
theorem e_rg2 {Q : Int → Int → Hp → Prop} (q : Ent L fun H => ta σ H fun x H1 => tb σ H1 fun y H2 => ∃ i j, x = .int i ∧ y = .int j ∧ Q i j H2) : Ent L fun H => tRg2 ta tb σ H Q := q
theorem e_make {sp : Sp} {E : XK} (q : Ent L fun H => tas σ H (kMake C sp E Q)) : Ent L fun H => tMake C sp [] E tas σ H Q := by
  have e : (fun (vs : List V) (H1 : Hp) => ∀ x dx, H1 x = none → H1 dx = none → dx ≠ x → sp (.ref x :: (vs ++ [])) (upd (upd H1 dx (.own x)) x (.ins C dx [])) (fun v H2 => v = .non ∧ Q (.ref x) H2) E) = kMake C sp E Q := by funext vs H1; rw [List.append_nil]; rfl
  show Ent L fun H => tas σ H (fun vs H1 => ∀ x dx, H1 x = none → H1 dx = none → dx ≠ x → sp (.ref x :: (vs ++ [])) (upd (upd H1 dx (.own x)) x (.ins C dx [])) (fun v H2 => v = .non ∧ Q (.ref x) H2) E)
  rw [e]
  exact q
theorem e_makeK {j l : Nat} {sp : Sp} {gV : List V → List V → List V} {E : XK} (q : Ent L fun H => tas σ H fun vs H1 => tk σ H1 (kMakeK C j l sp gV E Q vs)) : Ent L fun H => tMakeK C j l sp gV E tas tk σ H Q := q
theorem holds_ins {H : Hp} {x : Addr} (k : Holds L H) (n1 : H x = none) (n2 : H dx = none) (n3 : dx ≠ x) : Holds (pt x (.ins C dx []) :: L) (upd (upd H dx (.own x)) x (.ins C dx [])) := by
  have k2 := k.newI (o := .own x) n2 rfl
  have n4 : (upd H dx (.own x)) x = none := by rw [upd_ne (Ne.symm n3)]; exact n1
  exact Sub.to (Sub.cons (Sub.drop Sub.refl)) (k2.new (o := .ins C dx []) n4 rfl)
theorem e_new {sp : Sp} {E : XK} {vs : List V} (q : ∀ x dx, Ent (pt x (.ins C dx []) :: L) fun H => sp (.ref x :: vs) H (fun v H2 => v = .non ∧ Q (.ref x) H2) E) : Ent L fun H => kMake C sp E Q vs H := fun H k x dx n1 n2 n3 => q x dx _ (holds_ins k n1 n2 n3)
theorem e_newK {j l : Nat} {sp : Sp} {gV : List V → List V → List V} {E : XK} {vs zs : List V} (h1 : vs.length = j) (h2 : zs.length = l) (q : ∀ x dx, Ent (pt x (.ins C dx []) :: L) fun H => sp (gV (.ref x :: vs) zs) H (fun v H2 => v = .non ∧ Q (.ref x) H2) E) : Ent L fun H => kMakeK C j l sp gV E Q vs zs H := fun H k => ⟨h1, h2, fun x dx n1 n2 n3 => q x dx _ (holds_ins k n1 n2 n3)⟩
theorem e_rfl {φ : Hp → Prop} (q : Ent L φ) : Ent L fun H => x = x ∧ φ H := fun H k => ⟨rfl, q H k⟩
theorem e_eqD {α : Type} [DecidableEq α] {d : α → PyData} {n : Nat} (h : DtOk d n) {i j : α} (h1 : ∀ H, Holds L H → Dp K H x (d i)) (h2 : ∀ H, Holds L H → Dp K H y (d j)) (q : Ent L (Q (.bl (decide (i = j))))) (hn : n ≤ 64 := by decide) : Ent L fun H => rEqD K x y H Q := fun H k => w_eqDt h (h1 H k) (h2 H k) (q H k) hn
theorem e_neD {α : Type} [DecidableEq α] {d : α → PyData} {n : Nat} (h : DtOk d n) {i j : α} (h1 : ∀ H, Holds L H → Dp K H x (d i)) (h2 : ∀ H, Holds L H → Dp K H y (d j)) (q : Ent L (Q (.bl (!decide (i = j))))) (hn : n ≤ 64 := by decide) : Ent L fun H => rNeD K x y H Q := fun H k => w_neDt h (h1 H k) (h2 H k) (q H k) hn
theorem e_eqSame {x y : V} (d : PyData) (h1 : ∀ H, Holds L H → Dp K H x d) (h2 : ∀ H, Holds L H → Dp K H y d) (hl : d.canLay0 = true) (hd : d.depth ≤ 60) (q : Ent L (Q (.bl true))) : Ent L fun H => rEqD K x y H Q := fun H k => w_eqD d (h1 H k) (h2 H k) (shaped_of hl hd (by decide)) (SeqAt.eqv_refl d hl) (q H k)
theorem e_neSame {x y : V} (d : PyData) (h1 : ∀ H, Holds L H → Dp K H x d) (h2 : ∀ H, Holds L H → Dp K H y d) (hl : d.canLay0 = true) (hd : d.depth ≤ 60) (q : Ent L (Q (.bl false))) : Ent L fun H => rNeD K x y H Q := fun H k => w_neD d (h1 H k) (h2 H k) (shaped_of hl hd (by decide)) (SeqAt.eqv_refl d hl) (q H k)
theorem e_eqI {ns ms : List Int} (h1 : HasL K L a (ns.map V.int)) (h2 : HasL K L b (ms.map V.int)) (q : Ent L (Q (.bl (decide (ns = ms))))) : Ent L fun H => rEqD K (.ref a) (.ref b) H Q := e_eqD DtOk.int.list (fun H k => .lst (h1 H k) (ints_dp ns)) (fun H k => .lst (h2 H k) (ints_dp ms)) q
theorem e_neI {ns ms : List Int} (h1 : HasL K L a (ns.map V.int)) (h2 : HasL K L b (ms.map V.int)) (q : Ent L (Q (.bl (!decide (ns = ms))))) : Ent L fun H => rNeD K (.ref a) (.ref b) H Q := e_neD DtOk.int.list (fun H k => .lst (h1 H k) (ints_dp ns)) (fun H k => .lst (h2 H k) (ints_dp ms)) q
theorem e_eqI0 {ns : List Int} (h1 : HasL K L a (ns.map V.int)) (h2 : HasL K L b []) (q : Ent L (Q (.bl (decide (ns = []))))) : Ent L fun H => rEqD K (.ref a) (.ref b) H Q := e_eqI (ms := []) h1 h2 q
theorem e_neI0 {ns : List Int} (h1 : HasL K L a (ns.map V.int)) (h2 : HasL K L b []) (q : Ent L (Q (.bl (!decide (ns = []))))) : Ent L fun H => rNeD K (.ref a) (.ref b) H Q := e_neI (ms := []) h1 h2 q
theorem inV_int (x : Int) : ∀ ns : List Int, inV (.int x) (ns.map V.int) = decide (x ∈ ns)
  | [] => by simp [inV]
  | n :: ns => by
    have ih := inV_int x ns
    unfold inV at ih ⊢
    rw [List.map_cons, List.any_cons, ih]
    by_cases h : n = x
    · subst h; simp [eqV]
    · have h' : ¬ x = n := fun z => h z.symm
      simp [eqV, h, h']
theorem flat_ints (ns : List Int) : (ns.map V.int).all flatV = true := by
  rw [List.all_eq_true]
  intro v hv
  obtain ⟨n, _, rfl⟩ := List.mem_map.mp hv
  rfl
theorem e_inI {ns : List Int} {x : Int} (h : HasL K L a (ns.map V.int)) (q : Ent L (Q (.bl (decide (x ∈ ns))))) : Ent L fun H => rIn K false (.int x) (.ref a) H Q := e_inL h rfl (flat_ints ns) (by rw [inV_int]; exact q)
theorem e_niI {ns : List Int} {x : Int} (h : HasL K L a (ns.map V.int)) (q : Ent L (Q (.bl (!decide (x ∈ ns))))) : Ent L fun H => rIn K true (.int x) (.ref a) H Q := e_inL h rfl (flat_ints ns) (by rw [inV_int]; exact q)
theorem atI_of {α : Type} {xs : List α} {i : Int} {v : α} (h : 0 ≤ i) (e : xs[i.toNat]? = some v) : atI xs i = some v := by
  have hj := (List.getElem?_eq_some_iff.mp e).1
  have z : ((i.toNat : Nat) : Int) = i := by omega
  have q : atI xs ((i.toNat : Nat) : Int) = some v := atI_nat e
  rw [z] at q
  exact q
theorem atI_ofM {α : Type} {xs : List α} {f : α → V} {i : Int} {v : α} (h : 0 ≤ i) (e : xs[i.toNat]? = some v) : atI (xs.map f) i = some (f v) := atI_of h (by rw [List.getElem?_map, e]; rfl)
theorem e_own {sp : Sp} {E : XK} {y : V} {t : Value} (h : ∀ H, Holds L H → ∃ dx fs, H a = some (.ins C dx fs)) (ht : ∀ H, Holds L H → TyX K H y t) (hn : PySem.W.notFirst K C t = true) (q : Ent L fun H => sp [.ref a, y] H (fun v H' => ∃ b, v = .bl b ∧ Q v H') E) : Ent L fun H => rOwn K C sp E (.ref a) y H Q := fun H k => by
  obtain ⟨dx, fs, e⟩ := h H k
  exact ⟨a, dx, fs, t, rfl, e, ht H k, hn, q H k⟩
theorem take_eq {o o' : HO} (e : o = o') (t : Take (pt a o) L R) : Take (pt a o') L R := e ▸ t
theorem take_eqI {o o' : HO} (e : o = o') (t : Take (im a o) L R) : Take (im a o') L R := e ▸ t
/-! ### lists that are an image -/
section
variable {α : Type} {g : α → V} {us ws : List α} {w : α}
def cutA {α : Type} (xs : List α) (lo hi : Option Int) : List α := (xs.drop (HT.sIx xs.length 0 lo)).take (HT.sIx xs.length xs.length hi - HT.sIx xs.length 0 lo)
theorem erase_map : ∀ (us : List α) (j : Nat), (us.map g).eraseIdx j = (us.eraseIdx j).map g
  | [], j => by simp
  | u :: us, 0 => rfl
  | u :: us, j + 1 => by simp [erase_map us j]
theorem cutV_map (lo hi : Option Int) : cutV (us.map g) lo hi = (cutA us lo hi).map g := by
  unfold cutV cutA
  rw [List.length_map, List.map_take, List.map_drop]
theorem cutV_A {xs : List V} (lo hi : Option Int) : cutV xs lo hi = cutA xs lo hi := rfl
theorem cutA_to {j : Int} (h : 0 ≤ j) : cutA us none (some j) = us.take j.toNat := by
  unfold cutA
  rw [HT.sIx_none, sIx_int _ _ _ h]
  by_cases q : j.toNat ≤ us.length
  · rw [Nat.min_eq_left q]; simp
  · rw [Nat.min_eq_right (by omega), List.take_of_length_le (by omega : us.length ≤ j.toNat)]; simp
theorem cutA_from {i : Int} (h : 0 ≤ i) : cutA us (some i) none = us.drop i.toNat := by
  unfold cutA
  rw [HT.sIx_none, sIx_int _ _ _ h]
  by_cases q : i.toNat ≤ us.length
  · rw [Nat.min_eq_left q, List.take_of_length_le (by rw [List.length_drop]; omega)]
  · rw [Nat.min_eq_right (by omega)]
    simp [List.drop_eq_nil_of_le (by omega : us.length ≤ i.toNat)]
theorem cutA_mid {i j : Int} (h : 0 ≤ i) (hj : i ≤ j) : cutA us (some i) (some j) = (us.drop i.toNat).take (j.toNat - i.toNat) := by
  unfold cutA
  rw [sIx_int _ _ _ h, sIx_int _ _ _ (by omega)]
  by_cases q : i.toNat ≤ us.length
  · rw [Nat.min_eq_left q]
    by_cases q2 : j.toNat ≤ us.length
    · rw [Nat.min_eq_left q2]
    · rw [Nat.min_eq_right (by omega), List.take_of_length_le (by rw [List.length_drop]; omega), List.take_of_length_le (by rw [List.length_drop]; omega)]
  · rw [Nat.min_eq_right (by omega)]
    simp [List.drop_eq_nil_of_le (by omega : us.length ≤ i.toNat)]
    exact .inr (by omega)
theorem cutA_all : cutA us none none = us := by unfold cutA; simp [HT.sIx_none]
theorem cutA_last {w : α} : cutA (us ++ [w]) (some (-1)) none = [w] := by
  unfold cutA
  rw [HT.sIx_none]
  have e : HT.sIx (us ++ [w]).length 0 (some (-1)) = us.length := by
    unfold HT.sIx
    simp
    omega
  rw [e]
  simp
theorem cutA_last0 : cutA ([] : List α) (some (-1)) none = [] := by unfold cutA; simp
theorem cutA_init {w : α} : cutA (us ++ [w]) none (some (-1)) = us := by
  unfold cutA
  rw [HT.sIx_none]
  have e : HT.sIx (us ++ [w]).length (us ++ [w]).length (some (-1)) = us.length := by
    unfold HT.sIx
    simp
    omega
  rw [e]
  simp
theorem cutA_h1 {w : α} : cutA (w :: us) none (some 1) = [w] := by rw [cutA_to (by omega)]; rfl
theorem cutA_t1 {w : α} : cutA (w :: us) (some 1) none = us := by rw [cutA_from (by omega)]; rfl
theorem atI_0 {w : α} : atI (w :: us) 0 = some w := atI_of (by omega) rfl
theorem atI_m1 {w : α} : atI (us ++ [w]) (-1) = some w := by
  unfold atI ixN
  rw [if_neg (by omega), if_pos (by rw [List.length_append, List.length_singleton]; omega)]
  have e : (-1 + (((us ++ [w]).length : Nat) : Int)).toNat = us.length := by rw [List.length_append, List.length_singleton]; omega
  rw [e]
  simp
theorem atI_map {i : Int} (h : atI us i = some w) : atI (us.map g) i = some (g w) := by
  unfold atI at h ⊢
  rw [List.length_map]
  cases z : ixN us.length i with
  | none => rw [z] at h; cases h
  | some j =>
    rw [z] at h
    show (us.map g)[j]? = _
    rw [List.getElem?_map]
    have h : us[j]? = some w := h
    rw [h]
    rfl
theorem e_ixM {i : Int} (h : HasL K L a (us.map g)) (hi : atI us i = some w) (q : Ent L fun H => Q (g w) H) : Ent L fun H => rIxL K (.ref a) (.int i) H Q := e_ixL h (atI_map hi) q
theorem e_setM {v : V} {i : Int} {j : Nat} {φ : Hp → Prop} (h : Take (pt a (.lst (us.map g))) L R) (hv : v = g w) (hi : ixN us.length i = some j) (q : Ent (pt a (.lst ((us.set j w).map g)) :: R) φ) : Ent L fun H => rSetL (.ref a) (.int i) v H φ := by
  subst hv
  refine e_setL h (by rw [List.length_map]; exact hi) ?_
  rw [← List.map_set]
  exact q
theorem e_appM {v : V} (h : Take (pt l (.lst (us.map g))) L R) (hv : v = g w) (hz : us.length ≤ 100000) (q : Ent (pt l (.lst ((us ++ [w]).map g)) :: R) (Q .non)) : Ent L fun H => rAppend (.ref l) [v] H Q := by
  subst hv
  refine e_app h (by rw [List.length_map]; exact hz) ?_
  rw [List.map_append] at q
  exact q
theorem e_popM (h : Take (pt l (.lst (us.map g))) L R) (hy : us[us.length - 1]? = some w) (q : Ent (pt l (.lst (us.dropLast.map g)) :: R) (Q (g w))) : Ent L fun H => rPop (.ref l) [] H Q := by
  refine e_pop h (by rw [List.length_map, List.getElem?_map, hy]; rfl) ?_
  rw [List.map_dropLast] at q
  exact q
theorem e_popAtM {i : Int} {j : Nat} (h : Take (pt l (.lst (us.map g))) L R) (h0 : -1000000 ≤ i ∧ i ≤ 1000000) (hj : seqIndex? i us.length = some j) (hy : us[j]? = some w) (q : Ent (pt l (.lst ((us.eraseIdx j).map g)) :: R) (Q (g w))) : Ent L fun H => rPopAt (.ref l) [.int i] H Q := by
  refine e_popAt h h0 (by rw [List.length_map]; exact hj) (by rw [List.getElem?_map, hy]; rfl) ?_
  rw [erase_map] 
  exact q
theorem e_slM {lo hi : Option Int} (h : HasL K L a (us.map g)) (q : ∀ p, Ent (pt p (.lst ((cutA us lo hi).map g)) :: L) (Q (.ref p))) : Ent L fun H => rSlL K (.ref a) lo hi H Q := e_slL h fun p => by rw [cutV_map]; exact q p
theorem e_revM (h : HasL K L a (us.map g)) (q : ∀ p, Ent (pt p (.lst (us.reverse.map g)) :: L) (Q (.ref p))) : Ent L fun H => kRev K Q (.ref a) H := e_rev h fun p => by rw [← List.map_reverse]; exact q p
theorem e_catM {R' : List HA} (h1 : Take (pt l (.lst (us.map g))) L R) (h2 : Take (pt b (.lst (ws.map g))) L R') (hz : us.length + ws.length ≤ 100000) (q : ∀ p, Ent (pt p (.lst ((us ++ ws).map g)) :: L) (Q (.ref p))) : Ent L fun H => rCat (.ref l) (.ref b) H Q := e_cat h1 h2 (by rw [List.length_map, List.length_map]; exact hz) fun p => by rw [← List.map_append]; exact q p
end
theorem ixN_at {α : Type} {us : List α} {i : Int} (h0 : 0 ≤ i) (h1 : i < us.length) : ixN us.length i = some i.toNat := ixN_of h0 h1
theorem e_catT (h1 : HasT K L a xs) (h2 : HasT K L b ys) (hx : xs ≠ []) (hy : ys ≠ []) (hz : xs.length + ys.length ≤ 100000) (q : ∀ p, Ent (tu p (xs ++ ys) :: L) (Q (.ref p))) : Ent L fun H => rCatT K (.ref a) (.ref b) H Q := fun H k =>
  ⟨a, b, xs, ys, rfl, rfl, h1 H k, h2 H k, hx, Nat.le_trans hz (by decide), fun z => (hy z).elim, fun _ p n => q p _ (k.newI n rfl)⟩
theorem e_catT0 (h1 : HasT K L a xs) (h2 : HasT K L b []) (hx : xs ≠ []) (hz : xs.length ≤ 100000) (q : Ent L (Q (.ref a))) : Ent L fun H => rCatT K (.ref a) (.ref b) H Q := fun H k =>
  ⟨a, b, xs, [], rfl, rfl, h1 H k, h2 H k, hx, Nat.le_trans hz (by decide), fun _ => q H k, fun z => (z rfl).elim⟩
theorem e_isi {v w : V} {t u : Value} {r : Bool} (ht : ∀ H, Holds L H → TyX K H v t) (hc : ClsV w u) (hk : PySem.W.kitOne K t u = some r) (q : Ent L (Q (.bl r))) : Ent L fun H => rIsi K [v, w] H Q := fun H k => ⟨v, w, t, u, r, rfl, hc, ht H k, hk, q H k⟩
/-- an instance of C stands at a, without an attribute m -/
def HasI (C : Addr) (L : List HA) (a : Addr) (m : Str) : Prop := ∀ H, Holds L H → ∃ dx fs, H a = some (.ins C dx fs) ∧ fs.lookup m = none
theorem hasI_pt {m : Str} (t : Take (pt a (.ins C dx fs)) L R) (hl : fs.lookup m = none) : HasI C L a m := fun H h => ⟨dx, fs, t.pt h, hl⟩
theorem e_methI {φ : Hp → Prop} {m : Str} (h : HasI C L a m) (q : Ent L φ) : Ent L fun H => ∃ a' dx fs, V.ref a = .ref a' ∧ H a' = some (.ins C dx fs) ∧ fs.lookup m = none ∧ φ H := fun H k => by
  obtain ⟨dx, fs, e, l⟩ := h H k
  exact ⟨a, dx, fs, rfl, e, l, q H k⟩
theorem e_propI {sp : Sp} {dvs : List V} {E : XK} (h : HasI C L a "") (q : Ent L fun H => sp (.ref a :: dvs) H Q E) : Ent L fun H => ∃ a' dx fs, V.ref a = .ref a' ∧ H a' = some (.ins C dx fs) ∧ sp (.ref a' :: dvs) H Q E := fun H k => by
  obtain ⟨dx, fs, e, l⟩ := h H k
  exact ⟨a, dx, fs, rfl, e, q H k⟩
/-! ### loops -/
/-- a walk that yields f i, the heap unchanged, wherever G stands -/
theorem e_loop {β : Type} {J : It} {n : Nat} {G : Hp → Prop} {Y : Nat → Hp → V → Hp → Prop} {g : TG} {tb : TS} (w : Walk J n G Y) (sg : Nat → β → St) (Pv : Nat → β → List HA) (b0 : β) (h0 : σ = sg 0 b0) (s0 : Sub L (Pv 0 b0)) (hG : ∀ i b, Ent (Pv i b) G)
    (hs : ∀ i x b, i < n → ∀ H H', Holds (Pv i b) H → Y i H x H' → g x (sg i b) H' fun σ2 H2 => tb ⟨fun σ' H' => ∃ b, σ' = sg (i + 1) b ∧ Holds (Pv (i + 1) b) H', rt, nx, fun σ' H' => ∃ b, σ' = sg (i + 1) b ∧ Holds (Pv (i + 1) b) H'⟩ σ2 H2)
    (hd : ∀ b, Ent (Pv n b) (nx (sg n b))) : Ent L fun H => kLoop g tb ⟨nx, rt, bk, ct⟩ σ J H := fun H k =>
  w_loop w (fun i σ' H' => ∃ b, σ' = sg i b ∧ Holds (Pv i b) H') ⟨b0, h0, s0.to k⟩ (fun i σ H _ ⟨b, _, z⟩ => hG i b H z) (fun i x σ' H' H'' hi ⟨b, e, z⟩ y => by subst e; exact hs i x b hi H' H'' z y) (fun σ' H' ⟨b, e, z⟩ => by subst e; exact hd b H' z)
theorem e_list {β : Type} {g : TG} {tb : TS} (sg : Nat → β → St) (Pv : Nat → β → List HA) (b0 : β) (h : HasL K L a xs) (h0 : σ = sg 0 b0) (s0 : Sub L (Pv 0 b0)) (hl : ∀ i b, HasL K (Pv i b) a xs)
    (hs : ∀ i x b, xs[i]? = some x → Ent (Pv i b) fun H => g x (sg i b) H fun σ2 H2 => tb ⟨fun σ' H' => ∃ b, σ' = sg (i + 1) b ∧ Holds (Pv (i + 1) b) H', rt, nx, fun σ' H' => ∃ b, σ' = sg (i + 1) b ∧ Holds (Pv (i + 1) b) H'⟩ σ2 H2)
    (hd : ∀ b, Ent (Pv xs.length b) (nx (sg xs.length b))) : Ent L fun H => kFL K g tb ⟨nx, rt, bk, ct⟩ σ (.ref a) H := fun H k =>
  w_list (fun i σ' H' => ∃ b, σ' = sg i b ∧ Holds (Pv i b) H') (h H k) ⟨b0, h0, s0.to k⟩ (fun i σ' H' _ ⟨b, _, z⟩ => hl i b H' z) (fun i x σ' H' hx ⟨b, e, z⟩ => by subst e; exact hs i x b hx H' z) (fun σ' H' ⟨b, e, z⟩ => by subst e; exact hd b H' z)
theorem e_tupl {β : Type} {g : TG} {tb : TS} (sg : Nat → β → St) (Pv : Nat → β → List HA) (b0 : β) (h : HasT K L a xs) (h0 : σ = sg 0 b0) (s0 : Sub L (Pv 0 b0)) (hl : ∀ i b, HasT K (Pv i b) a xs)
    (hs : ∀ i x b, xs[i]? = some x → Ent (Pv i b) fun H => g x (sg i b) H fun σ2 H2 => tb ⟨fun σ' H' => ∃ b, σ' = sg (i + 1) b ∧ Holds (Pv (i + 1) b) H', rt, nx, fun σ' H' => ∃ b, σ' = sg (i + 1) b ∧ Holds (Pv (i + 1) b) H'⟩ σ2 H2)
    (hd : ∀ b, Ent (Pv xs.length b) (nx (sg xs.length b))) : Ent L fun H => kFT K g tb ⟨nx, rt, bk, ct⟩ σ (.ref a) H := fun H k =>
  w_tupl (fun i σ' H' => ∃ b, σ' = sg i b ∧ Holds (Pv i b) H') (h H k) ⟨b0, h0, s0.to k⟩ (fun i σ' H' _ ⟨b, _, z⟩ => hl i b H' z) (fun i x σ' H' hx ⟨b, e, z⟩ => by subst e; exact hs i x b hx H' z) (fun σ' H' ⟨b, e, z⟩ => by subst e; exact hd b H' z)
theorem e_range1 {β : Type} {g : TG} {tb : TS} {j : Int} (sg : Nat → β → St) (Pv : Nat → β → List HA) (b0 : β) (hj : -100000000 ≤ j ∧ j < 100000000) (h0 : σ = sg 0 b0) (s0 : Sub L (Pv 0 b0))
    (hs : ∀ (i : Nat) b, (i : Int) < j → Ent (Pv i b) fun H => g (.int i) (sg i b) H fun σ2 H2 => tb ⟨fun σ' H' => ∃ b, σ' = sg (i + 1) b ∧ Holds (Pv (i + 1) b) H', rt, nx, fun σ' H' => ∃ b, σ' = sg (i + 1) b ∧ Holds (Pv (i + 1) b) H'⟩ σ2 H2)
    (hd : ∀ b, Ent (Pv j.toNat b) (nx (sg j.toNat b))) : Ent L fun H => kR1 g tb ⟨nx, rt, bk, ct⟩ σ [.int j] H := fun H k =>
  w_range1 (fun i σ' H' => ∃ b, σ' = sg i b ∧ Holds (Pv i b) H') hj ⟨b0, h0, s0.to k⟩ (fun i σ' H' hi ⟨b, e, z⟩ => by subst e; exact hs i b hi H' z) (fun σ' H' ⟨b, e, z⟩ => by subst e; exact hd b H' z)
theorem e_forR1 {g : TG} {tb : TS} (q : Ent L fun H => tas σ H fun vs H1 => kR1 g tb ⟨nx, rt, bk, ct⟩ σ vs H1) : Ent L fun H => tFor (iRng1 tas) g tb ⟨nx, rt, bk, ct⟩ σ H := q
theorem e_forL {g : TG} {tb : TS} (q : Ent L fun H => te σ H fun x H1 => kFL K g tb ⟨nx, rt, bk, ct⟩ σ x H1) : Ent L fun H => tFor (iList K te) g tb ⟨nx, rt, bk, ct⟩ σ H := q
theorem e_forT {g : TG} {tb : TS} (q : Ent L fun H => te σ H fun x H1 => kFT K g tb ⟨nx, rt, bk, ct⟩ σ x H1) : Ent L fun H => tFor (iTup K te) g tb ⟨nx, rt, bk, ct⟩ σ H := q
theorem e_forZ {g : TG} {tb : TS} (q : Ent L fun H => tas σ H fun us H1 => kZip K (kLoop g tb ⟨nx, rt, bk, ct⟩ σ) us H1) : Ent L fun H => tFor (iZip K tas) g tb ⟨nx, rt, bk, ct⟩ σ H := q
theorem e_forE {g : TG} {tb : TS} (q : Ent L fun H => tas σ H fun us H1 => kEnum K (kLoop g tb ⟨nx, rt, bk, ct⟩ σ) us H1) : Ent L fun H => tFor (iEnum K tas) g tb ⟨nx, rt, bk, ct⟩ σ H := q
/-! ### comprehensions: kp tells what is kept of an item (nothing: none); owned things stay as they are -/
def kLc (K : PySem.W.Frag) (g : TG) (tt : TT) (te : TE) (vs : List Nat) (σ : St) (Q : VK) (x : V) (H : Hp) : Prop := ∃ a, x = .ref a ∧ (∃ xs, SqL K H a xs) ∧ ∀ D, H D = none → ∃ W : Nat → Nat → Hp → Prop, (∃ m, W 0 m (upd H D (.lst []))) ∧ ∀ i m H, W i m H →
  ((Itl K a).stop i H ∧ Q (.ref D) H) ∨ ((Itl K a).go i H ∧ ∃ Nx : Hp → Prop, (∀ H', Nx H' → ∃ m', m' < m ∧ W (i + 1) m' H') ∧ ∀ x H', (Itl K a).yld i H x H' → g x (wipe σ vs) H' fun σ2 H2 => wipe σ2 vs = wipe σ vs ∧ tt σ2 H2 fun b H3 =>
    if b = true then te σ2 H3 fun y H4 => ∃ acc, H4 D = some (.lst acc) ∧ acc.length < sizeLine ∧ Nx (upd H4 D (.lst (acc ++ [y]))) else Nx H3)
theorem e_lc0 {g : TG} {tt : TT} {vs : List Nat} (q : Ent L fun H => ta σ H fun x H1 => kLc K g tt te vs σ Q x H1) : Ent L fun H => tLc (iList K ta) g tt te vs σ H Q := q
theorem e_lc {α : Type} {g : TG} {tt : TT} {vs : List Nat} (es : List α) (it : α → V) (kp : α → Option V) (h : HasL K L a (es.map it)) (hz : es.length ≤ 100000)
    (step : ∀ e, e ∈ es → ∀ D acc (r : VK) (s : Hp → Prop), (∀ y, kp e = some y → Ent (pt D (.lst acc) :: L) (r y)) → (kp e = none → Ent (pt D (.lst acc) :: L) s) → Ent (pt D (.lst acc) :: L) fun H => g (it e) (wipe σ vs) H fun σ2 H2 => wipe σ2 vs = wipe σ vs ∧ tt σ2 H2 fun b H3 => if b = true then te σ2 H3 r else s H3)
    (q : ∀ D, Ent (pt D (.lst (es.filterMap kp)) :: L) (Q (.ref D))) : Ent L fun H => kLc K g tt te vs σ Q (.ref a) H := fun H k => by
  refine ⟨a, rfl, ⟨_, h H k⟩, fun D nD => ?_⟩
  refine lc_list (K := K) (a := a) (xs := es.map it) (fun i H' => i ≤ es.length ∧ Holds (pt D (.lst ((es.take i).filterMap kp)) :: L) H') ⟨Nat.zero_le _, k.new nD rfl⟩ (fun i H' _ p => h H' (Sub.to (Sub.drop Sub.refl) p.2)) (fun i x H' hx p => ?_) (fun H' p => q D H' (by
    have e := p.2
    rw [List.length_map, List.take_length] at e
    exact e))
  obtain ⟨e, he, hin, rfl⟩ := map_at hx
  have hi : i < es.length := (List.getElem?_eq_some_iff.mp he).1
  have et : es.take (i + 1) = es.take i ++ [e] := by rw [List.take_succ, he]; rfl
  refine step e hin D _ _ _ (fun y hy H4 z => ?_) (fun hn H3 z => ?_) H' p.2
  · refine ⟨_, z.pt_get, Nat.lt_of_le_of_lt (List.length_filterMap_le _ _) (Nat.lt_of_le_of_lt ?_ (by decide : 100000 < sizeLine)), hi, ?_⟩
    · rw [List.length_take]
      omega
    · rw [et, List.filterMap_append]
      simp only [List.filterMap_cons, hy, List.filterMap_nil]
      exact z.upd rfl
  · refine ⟨hi, ?_⟩
    rw [et, List.filterMap_append]
    simp only [List.filterMap_cons, hn, List.filterMap_nil, List.append_nil]
    exact z
end
end Toy
namespace Toy
open PySem L2
/-! ### kinds of things that never change, and lists, tuples of them -/
abbrev KeepI (H H' : Hp) : Prop := Keep (fun _ => False) H H'
theorem Keep.i {S : Addr → Prop} {H H' : Hp} (k : Keep S H H') : KeepI H H' := k.mono fun _ z => z.elim
structure El (K : PySem.W.Frag) (α : Type) where
  P : Hp → V → α → Prop
  st : ∀ {H H' : Hp} {v : V} {x : α}, P H v x → KeepI H H' → P H' v x
  d : α → PyData
  dp : ∀ {H : Hp} {v : V} {x : α}, P H v x → Dp K H v (d x)
inductive All2 {α β : Type} (r : α → β → Prop) : List α → List β → Prop
  | nil : All2 r [] []
  | cons {x : α} {y : β} {xs : List α} {ys : List β} : r x y → All2 r xs ys → All2 r (x :: xs) (y :: ys)
section
variable {α β : Type} {r s : α → β → Prop} {xs xs' : List α} {ys ys' : List β}
theorem All2.imp (f : ∀ x y, r x y → s x y) : ∀ {xs ys}, All2 r xs ys → All2 s xs ys
  | _, _, .nil => .nil
  | _, _, .cons h t => .cons (f _ _ h) (All2.imp f t)
theorem All2.len : ∀ {xs : List α} {ys : List β}, All2 r xs ys → xs.length = ys.length
  | _, _, .nil => rfl
  | _, _, .cons _ t => by simp [All2.len t]
theorem All2.app (h : All2 r xs ys) (k : All2 r xs' ys') : All2 r (xs ++ xs') (ys ++ ys') := by
  induction h with
  | nil => exact k
  | cons h _ ih => exact .cons h ih
theorem All2.one {x : α} {y : β} (h : r x y) : All2 r [x] [y] := .cons h .nil
theorem All2.get : ∀ {xs : List α} {ys : List β} {i : Nat} {x : α}, All2 r xs ys → xs[i]? = some x → ∃ y, ys[i]? = some y ∧ r x y
  | _, _, _, _, .nil, e => by simp at e
  | _, _, 0, _, .cons h _, e => by simp at e; subst e; exact ⟨_, rfl, h⟩
  | _, _, i + 1, x, .cons _ t, e => by
    obtain ⟨y, h1, h2⟩ := All2.get (i := i) (x := x) t (by simpa using e)
    exact ⟨y, by simpa using h1, h2⟩
theorem All2.getR : ∀ {xs : List α} {ys : List β} {i : Nat} {y : β}, All2 r xs ys → ys[i]? = some y → ∃ x, xs[i]? = some x ∧ r x y
  | _, _, _, _, .nil, e => by simp at e
  | _, _, 0, _, .cons h _, e => by simp at e; subst e; exact ⟨_, rfl, h⟩
  | _, _, i + 1, x, .cons _ t, e => by
    obtain ⟨y, h1, h2⟩ := All2.getR (i := i) t (by simpa using e)
    exact ⟨y, by simpa using h1, h2⟩
theorem All2.take : ∀ (n : Nat) {xs : List α} {ys : List β}, All2 r xs ys → All2 r (xs.take n) (ys.take n)
  | 0, _, _, _ => by simp; exact .nil
  | n + 1, _, _, .nil => .nil
  | n + 1, _, _, .cons h t => .cons h (All2.take n t)
theorem All2.drop : ∀ (n : Nat) {xs : List α} {ys : List β}, All2 r xs ys → All2 r (xs.drop n) (ys.drop n)
  | 0, _, _, h => h
  | n + 1, _, _, .nil => .nil
  | n + 1, _, _, .cons h t => All2.drop n t
theorem All2.eraseIdx : ∀ (n : Nat) {xs : List α} {ys : List β}, All2 r xs ys → All2 r (xs.eraseIdx n) (ys.eraseIdx n)
  | _, _, _, .nil => by simp; exact .nil
  | 0, _, _, .cons h t => t
  | n + 1, _, _, .cons h t => .cons h (All2.eraseIdx n t)
theorem All2.set {x : α} {y : β} (q : r x y) : ∀ (n : Nat) {xs : List α} {ys : List β}, All2 r xs ys → All2 r (xs.set n x) (ys.set n y)
  | _, _, _, .nil => by simp; exact .nil
  | 0, _, _, .cons h t => .cons q t
  | n + 1, _, _, .cons h t => .cons h (All2.set q n t)
theorem All2.rev (h : All2 r xs ys) : All2 r xs.reverse ys.reverse := by
  induction h with
  | nil => exact .nil
  | cons h _ ih => simp only [List.reverse_cons]; exact ih.app (.one h)
theorem All2.map (f : β → α) (h : ∀ y ∈ ys, r (f y) y) : All2 r (ys.map f) ys := by
  induction ys with
  | nil => exact .nil
  | cons y ys ih => exact .cons (h y (List.mem_cons_self ..)) (ih fun z hz => h z (List.mem_cons_of_mem _ hz))
end
section
variable {K : PySem.W.Frag} {α β γ δ : Type}
theorem dpAll_of {d : α → PyData} {H : Hp} {vs : List V} {xs : List α} (h : All2 (fun v x => Dp K H v (d x)) vs xs) : DpAll K H vs (xs.map d) := by
  induction h with
  | nil => exact .nil
  | cons h _ ih => exact .cons h ih
def kI : El K Int := ⟨fun _ v n => v = .int n, fun h _ => h, .int, fun h => by subst h; exact .int _⟩
def kB : El K Bool := ⟨fun _ v n => v = .bl n, fun h _ => h, .bool, fun h => by subst h; exact .bl _⟩
def kS : El K Str := ⟨fun _ v n => v = .str n, fun h _ => h, .str, fun h => by subst h; exact .str _⟩
def kO (E : El K α) : El K (Option α) := ⟨fun H v x => match x with | none => v = .non | some y => E.P H v y, fun {H H' v x} h k => by
  cases x with
  | none => exact h
  | some y => exact E.st h k, optD E.d, fun {H v x} h => by
  cases x with
  | none => cases h; exact .non
  | some y => exact E.dp h⟩
/-- a tuple of plain values -/
def kF (f : α → List V) (g : α → List PyData) (hd : ∀ {K : PySem.W.Frag} {H : Hp} (x : α), DpAll K H (f x) (g x)) : El K α := ⟨fun H v x => ∃ t, v = .ref t ∧ H t = some (.tup (f x)), fun ⟨t, e, h⟩ k => ⟨t, e, k t _ h (.inr rfl)⟩, fun x => .tuple (g x), fun ⟨t, e, h⟩ => by
  subst e
  exact .tup (SqT.of h) (hd _)⟩
def kP2 (A : El K α) (B : El K β) : El K (α × β) := ⟨fun H v x => ∃ t u w, v = .ref t ∧ H t = some (.tup [u, w]) ∧ A.P H u x.1 ∧ B.P H w x.2, fun ⟨t, u, w, e, h, a, b⟩ k => ⟨t, u, w, e, k t _ h (.inr rfl), A.st a k, B.st b k⟩, fun x => .tuple [A.d x.1, B.d x.2], fun ⟨t, u, w, e, h, a, b⟩ => by
  subst e
  exact .tup (SqT.of h) (.cons (A.dp a) (.cons (B.dp b) .nil))⟩
def kP3 (A : El K α) (B : El K β) (C : El K γ) : El K (α × β × γ) := ⟨fun H v x => ∃ t u w z, v = .ref t ∧ H t = some (.tup [u, w, z]) ∧ A.P H u x.1 ∧ B.P H w x.2.1 ∧ C.P H z x.2.2, fun ⟨t, u, w, z, e, h, a, b, c⟩ k => ⟨t, u, w, z, e, k t _ h (.inr rfl), A.st a k, B.st b k, C.st c k⟩, fun x => .tuple [A.d x.1, B.d x.2.1, C.d x.2.2], fun ⟨t, u, w, z, e, h, a, b, c⟩ => by
  subst e
  exact .tup (SqT.of h) (.cons (A.dp a) (.cons (B.dp b) (.cons (C.dp c) .nil)))⟩
/-- a tuple of things of one kind -/
def kT (A : El K α) : El K (List α) := ⟨fun H v x => ∃ t us, v = .ref t ∧ H t = some (.tup us) ∧ All2 (A.P H) us x, fun ⟨t, us, e, h, a⟩ k => ⟨t, us, e, k t _ h (.inr rfl), a.imp fun _ _ z => A.st z k⟩, fun x => .tuple (x.map A.d), fun ⟨t, us, e, h, a⟩ => by
  subst e
  exact .tup (SqT.of h) (dpAll_of (a.imp fun _ _ z => A.dp z))⟩
/-- v is x, of the kind E -/
def vl (E : El K α) (v : V) (x : α) : HA := ⟨fun H S => E.P H v x ∧ ∀ b, ¬ S b, fun ⟨h, s⟩ k => ⟨E.st h k.i, s⟩, fun ⟨_, s⟩ q => (s _ q).elim⟩
instance {E : El K α} {v : V} {x : α} : Pers (vl E v x) := ⟨fun h q => h.2 _ q⟩
/-- all of vs are the xs, of the kind E -/
def vls (E : El K α) (vs : List V) (xs : List α) : HA := ⟨fun H S => All2 (E.P H) vs xs ∧ ∀ b, ¬ S b, fun ⟨h, s⟩ k => ⟨h.imp fun _ _ z => E.st z k.i, s⟩, fun ⟨_, s⟩ q => (s _ q).elim⟩
instance {E : El K α} {vs : List V} {xs : List α} : Pers (vls E vs xs) := ⟨fun h q => h.2 _ q⟩
/-- a list of things of the kind E stands at l -/
def ls (E : El K α) (l : Addr) (xs : List α) : HA := ⟨fun H S => (∃ vs, H l = some (.lst vs) ∧ All2 (E.P H) vs xs) ∧ ∀ b, S b ↔ b = l, fun {H H' S} ⟨⟨vs, h, a⟩, s⟩ k => ⟨⟨vs, k l _ h (.inl ((s l).mpr rfl)), a.imp fun _ _ z => E.st z k.i⟩, s⟩, fun {H S c} ⟨⟨vs, h, a⟩, s⟩ q => by
  rw [(s c).mp q]
  exact ⟨_, h, rfl⟩⟩
section
variable {E : El K α} {L M R R' : List HA} {l : Addr} {xs ys : List α} {vs : List V} {v : V} {x y : α} {Q : VK} {φ : Hp → Prop} {H : Hp}
/-- opened: its values -/
theorem Sub.ls_e (f : ∀ vs, Sub (pt l (.lst vs) :: vls E vs xs :: L) M) : Sub (ls E l xs :: L) M := fun H S ⟨S1, S2, ⟨⟨vs, h, a⟩, s⟩, h2, hd, hs⟩ =>
  f vs H S ⟨S1, S2, ⟨h, rfl, s⟩, ⟨fun _ => False, S2, ⟨a, fun _ q => q⟩, h2, fun _ q => q.elim, fun a => ⟨.inr, fun z => z.elim (fun z => z.elim) id⟩⟩, hd, hs⟩
theorem Ent.ls_e (e : ∀ vs, vs.length = xs.length → Ent (pt l (.lst vs) :: vls E vs xs :: L) φ) : Ent (ls E l xs :: L) φ := fun H ⟨S, S1, S2, ⟨⟨vs, h, a⟩, s⟩, h2, hd, hs⟩ =>
  e vs a.len H ⟨S, S1, S2, ⟨h, rfl, s⟩, ⟨fun _ => False, S2, ⟨a, fun _ q => q⟩, h2, fun _ q => q.elim, fun a => ⟨.inr, fun z => z.elim (fun z => z.elim) id⟩⟩, hd, hs⟩
/-- closed again -/
theorem Sub.ls_i (a : ∀ H, Holds L H → All2 (E.P H) vs xs) : Sub (pt l (.lst vs) :: L) (ls E l xs :: L) := fun H S ⟨S1, S2, ⟨h, i, s⟩, h2, hd, hs⟩ =>
  ⟨S, ⟨S1, S2, ⟨⟨vs, h, a H ⟨S2, h2⟩⟩, s⟩, h2, hd, hs⟩, fun _ q => q⟩
theorem Take.vl (t : Take (vl E v x) L R) (h : Holds L H) : E.P H v x := by
  obtain ⟨S, S1, S2, h1, _⟩ := t.to h
  exact h1.1
theorem Take.vls (t : Take (vls E vs xs) L R) (h : Holds L H) : All2 (E.P H) vs xs := by
  obtain ⟨S, S1, S2, h1, _⟩ := t.to h
  exact h1.1
theorem Take.ls (t : Take (ls E l xs) L R) (h : Holds L H) : ∃ vs, H l = some (.lst vs) ∧ All2 (E.P H) vs xs := by
  obtain ⟨S, S1, S2, h1, _⟩ := t.to h
  exact h1.1
theorem Holds.vl (h : Holds L H) (e : E.P H v x) : Holds (vl E v x :: L) H := by
  obtain ⟨S, h⟩ := h
  exact ⟨S, fun _ => False, S, ⟨e, fun b q => q⟩, h, fun b e q => e, fun b => ⟨.inr, fun z => z.elim (fun z => z.elim) id⟩⟩
theorem Holds.vls (h : Holds L H) (e : All2 (E.P H) vs xs) : Holds (vls E vs xs :: L) H := by
  obtain ⟨S, h⟩ := h
  exact ⟨S, fun _ => False, S, ⟨e, fun b q => q⟩, h, fun b e q => e, fun b => ⟨.inr, fun z => z.elim (fun z => z.elim) id⟩⟩
theorem Holds.ls_mk (h : Holds (pt l (.lst vs) :: R) H) (e : All2 (E.P H) vs ys) : Holds (ls E l ys :: R) H := by
  obtain ⟨S, S1, S2, ⟨h0, _, s⟩, h2⟩ := h
  exact ⟨S, S1, S2, ⟨⟨vs, h0, e⟩, s⟩, h2⟩
theorem Holds.ls_op (h : Holds (ls E l xs :: R) H) : ∃ ws, Holds (pt l (.lst ws) :: R) H ∧ All2 (E.P H) ws xs := by
  obtain ⟨S, S1, S2, ⟨⟨ws, h0, a⟩, s⟩, h2⟩ := h
  exact ⟨ws, ⟨S, S1, S2, ⟨h0, rfl, s⟩, h2⟩, a⟩
theorem keepI_upd {a : Addr} {o u : HO} (h : H a = some o) (i : Imm o = false) : KeepI H (L2.upd H a u) := fun b ob e q => by
  have n : b ≠ a := by
    rintro rfl
    rw [h] at e
    cases e
    rcases q with q | q
    · exact q.elim
    · rw [i] at q; cases q
  rw [upd_ne n]
  exact e
theorem keepI_new {a : Addr} {u : HO} (h : H a = none) : KeepI H (L2.upd H a u) := fun b ob e q => by
  rw [upd_ne (ne_of_none e h)]
  exact e
/-- the list's content replaced -/
theorem Holds.ls_upd (h : Holds (ls E l xs :: R) H) (e : All2 (E.P H) vs ys) : Holds (ls E l ys :: R) (L2.upd H l (.lst vs)) := by
  obtain ⟨ws, h1, _⟩ := h.ls_op
  have k : KeepI H (L2.upd H l (.lst vs)) := keepI_upd h1.pt_get rfl
  exact (h1.upd rfl).ls_mk (e.imp fun _ _ z => E.st z k)
theorem Holds.ls_new {p : Addr} (h : Holds L H) (n : H p = none) (e : All2 (E.P H) vs xs) : Holds (ls E p xs :: L) (L2.upd H p (.lst vs)) := (h.new n rfl).ls_mk (e.imp fun _ _ z => E.st z (keepI_new n))
theorem Holds.keep_vl (h : Holds (pt l (.lst vs) :: R) H) (e : E.P H v x) {u : HO} : E.P (L2.upd H l u) v x := E.st e (keepI_upd h.pt_get rfl)
/-! steps -/
theorem hasL_ls (t : Take (ls E l xs) L R) (h : Holds L H) : ∃ vs, SqL K H l vs ∧ All2 (E.P H) vs xs := by
  obtain ⟨vs, h1, h2⟩ := t.ls h
  exact ⟨vs, SqL.of h1, h2⟩
theorem e_lenLs (t : Take (ls E l xs) L R) (q : Ent L (Q (.int xs.length))) : Ent L fun H => rLenK K [.ref l] H Q := fun H k => by
  obtain ⟨vs, h1, h2⟩ := hasL_ls t k
  exact ⟨l, vs, rfl, .inl h1, by rw [h2.len]; exact q H k⟩
theorem e_tyLs {φ : Hp → Prop} (t : Take (ls E l xs) L R) (q : Ent L φ) : Ent L fun H => tyV K "list" (.ref l) H ∧ φ H := fun H k => by
  obtain ⟨vs, h1, h2⟩ := hasL_ls t k
  exact ⟨.inl ⟨rfl, vs, h1⟩, q H k⟩
theorem e_appLs (t : Take (ls E l xs) L R) (hy : ∀ H, Holds L H → E.P H v y) (hz : xs.length ≤ 100000) (q : Ent (ls E l (xs ++ [y]) :: R) (Q .non)) : Ent L fun H => rAppend (.ref l) [v] H Q := fun H k => by
  obtain ⟨vs, h1, h2⟩ := t.ls k
  exact ⟨l, vs, v, rfl, rfl, h1, by rw [h2.len]; exact Nat.lt_of_le_of_lt hz (by decide), q _ ((t.to k).ls_upd (h2.app (.one (hy H k))))⟩
theorem e_ixLs {i : Int} (t : Take (ls E l xs) L R) (hi : atI xs i = some x) (q : ∀ v, Ent (vl E v x :: L) (Q v)) : Ent L fun H => rIxL K (.ref l) (.int i) H Q := fun H k => by
  obtain ⟨vs, h1, h2⟩ := t.ls k
  have e := h2.len
  unfold atI at hi
  cases j : ixN xs.length i with
  | none => rw [j] at hi; cases hi
  | some j' =>
    rw [j] at hi
    obtain ⟨v, hv, hp⟩ := h2.getR hi
    exact ⟨l, vs, i, v, rfl, rfl, SqL.of h1, by unfold atI; rw [e, j]; exact hv, q v H (k.vl hp)⟩
theorem e_setLs {i : Int} {j : Nat} {φ : Hp → Prop} (t : Take (ls E l xs) L R) (hi : ixN xs.length i = some j) (hy : ∀ H, Holds L H → E.P H v y) (q : Ent (ls E l (xs.set j y) :: R) φ) : Ent L fun H => rSetL (.ref l) (.int i) v H φ := fun H k => by
  obtain ⟨vs, h1, h2⟩ := t.ls k
  exact ⟨l, vs, i, j, rfl, rfl, h1, by rw [h2.len]; exact hi, q _ ((t.to k).ls_upd (h2.set (hy H k) j))⟩
theorem e_popLs {y : α} (t : Take (ls E l xs) L R) (hy : xs[xs.length - 1]? = some y) (q : ∀ v, Ent (vl E v y :: ls E l xs.dropLast :: R) (Q v)) : Ent L fun H => rPop (.ref l) [] H Q := fun H k => by
  obtain ⟨vs, h1, h2⟩ := t.ls k
  have e := h2.len
  obtain ⟨v, hv, hp⟩ := h2.getR hy
  obtain ⟨ws, h3, _⟩ := (t.to k).ls_op
  refine ⟨l, vs, v, rfl, rfl, h1, by rw [e]; exact hv, q v _ (((t.to k).ls_upd ?_).vl (h3.keep_vl hp))⟩
  rw [List.dropLast_eq_take, List.dropLast_eq_take, e]
  exact h2.take _
theorem e_popAtLs {y : α} {i : Int} {j : Nat} (t : Take (ls E l xs) L R) (h0 : -1000000 ≤ i ∧ i ≤ 1000000) (hj : seqIndex? i xs.length = some j) (hy : xs[j]? = some y) (q : ∀ v, Ent (vl E v y :: ls E l (xs.eraseIdx j) :: R) (Q v)) : Ent L fun H => rPopAt (.ref l) [.int i] H Q := fun H k => by
  obtain ⟨vs, h1, h2⟩ := t.ls k
  obtain ⟨v, hv, hp⟩ := h2.getR hy
  obtain ⟨ws, h3, _⟩ := (t.to k).ls_op
  exact ⟨l, vs, i, j, v, rfl, rfl, h1, by omega, by omega, by rw [h2.len]; exact hj, hv, q v _ (((t.to k).ls_upd (h2.eraseIdx j)).vl (h3.keep_vl hp))⟩
theorem e_clearLs (t : Take (ls E l xs) L R) (q : Ent (ls E l [] :: R) (Q .non)) : Ent L fun H => rClear (.ref l) [] H Q := fun H k => by
  obtain ⟨vs, h1, h2⟩ := t.ls k
  exact ⟨l, vs, rfl, rfl, h1, q _ ((t.to k).ls_upd .nil)⟩
theorem All2.cutV {E : El K α} {vs : List V} {xs : List α} {lo hi : Option Int} (h : All2 (E.P H) vs xs) : ∃ a n, L2.cutV vs lo hi = (vs.drop a).take n ∧ a = HT.sIx xs.length 0 lo ∧ n = HT.sIx xs.length xs.length hi - HT.sIx xs.length 0 lo := by
  unfold L2.cutV
  rw [h.len]
  exact ⟨_, _, rfl, rfl, rfl⟩
theorem e_slLs {lo hi : Option Int} (t : Take (ls E l xs) L R) (q : ∀ p, Ent (ls E p (cutA xs lo hi) :: L) (Q (.ref p))) : Ent L fun H => rSlL K (.ref l) lo hi H Q := fun H k => by
  obtain ⟨vs, h1, h2⟩ := t.ls k
  obtain ⟨a, n, e, e2, e3⟩ := h2.cutV (lo := lo) (hi := hi)
  refine ⟨l, vs, rfl, SqL.of h1, fun p np => q p _ (k.ls_new np ?_)⟩
  rw [e, e2, e3]
  exact (h2.drop _).take _
theorem e_revLs (t : Take (ls E l xs) L R) (q : ∀ p, Ent (ls E p xs.reverse :: L) (Q (.ref p))) : Ent L fun H => kRev K Q (.ref l) H := fun H k => by
  obtain ⟨vs, h1, h2⟩ := t.ls k
  exact ⟨l, vs, rfl, SqL.of h1, fun p np => q p _ (k.ls_new np h2.rev)⟩
theorem e_catLs {b : Addr} (t : Take (ls E l xs) L R) (t2 : Take (ls E b ys) L R') (hz : xs.length + ys.length ≤ 100000) (q : ∀ p, Ent (ls E p (xs ++ ys) :: L) (Q (.ref p))) : Ent L fun H => rCat (.ref l) (.ref b) H Q := fun H k => by
  obtain ⟨vs, h1, h2⟩ := t.ls k
  obtain ⟨ws, h3, h4⟩ := t2.ls k
  exact ⟨l, b, vs, ws, rfl, rfl, h1, h3, by rw [h2.len, h4.len]; exact Nat.le_trans hz (by decide), fun p np => q p _ (k.ls_new np (h2.app h4))⟩
theorem e_listLs (t : Take (ls E l xs) L R) (q : ∀ p, Ent (ls E p xs :: L) (Q (.ref p))) : Ent L fun H => rListK K [.ref l] H Q := fun H k => by
  obtain ⟨vs, h1, h2⟩ := t.ls k
  exact ⟨l, vs, rfl, .inl (SqL.of h1), fun p np => q p _ (k.ls_new np h2)⟩
theorem e_tupLs (t : Take (ls E l xs) L R) (q : ∀ p, Ent (vl (kT E) (.ref p) xs :: L) (Q (.ref p))) : Ent L fun H => rTupK K [.ref l] H Q := fun H k => by
  obtain ⟨vs, h1, h2⟩ := t.ls k
  refine ⟨l, vs, rfl, .inl ⟨SqL.of h1, fun p np => q p _ ?_⟩⟩
  have h3 : Holds L (L2.upd H p (.tup vs)) := Sub.to (Sub.drop Sub.refl) (k.newI (o := .tup vs) np rfl)
  exact h3.vl ⟨p, vs, rfl, upd_same, h2.imp fun _ _ z => E.st z (keepI_new np)⟩
theorem dpLs (t : Take (ls E l xs) L R) : ∀ H, Holds L H → Dp K H (.ref l) (.list (xs.map E.d)) := fun H k => by
  obtain ⟨vs, h1, h2⟩ := t.ls k
  exact .lst (SqL.of h1) (dpAll_of (h2.imp fun _ _ z => E.dp z))
theorem dpVl (t : Take (vl E v x) L R) : ∀ H, Holds L H → Dp K H v (E.d x) := fun H k => E.dp (t.vl k)
theorem e_eqLs [DecidableEq α] {n : Nat} {a b : Addr} (h : DtOk E.d n) (t : Take (ls E a xs) L R) (t2 : Take (ls E b ys) L R') (q : Ent L (Q (.bl (decide (xs = ys))))) (hn : n + 1 ≤ 64 := by decide) : Ent L fun H => rEqD K (.ref a) (.ref b) H Q := e_eqD h.list (dpLs t) (dpLs t2) q hn
theorem e_neLs [DecidableEq α] {n : Nat} {a b : Addr} (h : DtOk E.d n) (t : Take (ls E a xs) L R) (t2 : Take (ls E b ys) L R') (q : Ent L (Q (.bl (!decide (xs = ys))))) (hn : n + 1 ≤ 64 := by decide) : Ent L fun H => rNeD K (.ref a) (.ref b) H Q := e_neD h.list (dpLs t) (dpLs t2) q hn
/-- a loop over such a list: the list stands in Pv -/
theorem e_listLs' {β : Type} {g : TG} {tb : TS} {σ : St} {nx bk ct : St → Hp → Prop} {rt : VK} (sg : Nat → β → St) (Pv : Nat → β → List HA) (b0 : β) (h0 : σ = sg 0 b0) (s0 : Sub L (Pv 0 b0)) (hl : ∀ i b, ∃ R, Take (ls E l xs) (Pv i b) R)
    (hs : ∀ i x v b, xs[i]? = some x → Ent (vl E v x :: Pv i b) fun H => g v (sg i b) H fun σ2 H2 => tb ⟨fun σ' H' => ∃ b, σ' = sg (i + 1) b ∧ Holds (Pv (i + 1) b) H', rt, nx, fun σ' H' => ∃ b, σ' = sg (i + 1) b ∧ Holds (Pv (i + 1) b) H'⟩ σ2 H2)
    (hd : ∀ b, Ent (Pv xs.length b) (nx (sg xs.length b))) : Ent L fun H => kFL K g tb ⟨nx, rt, bk, ct⟩ σ (.ref l) H := fun H k => by
  have w : Walk (Itl K l) xs.length (fun H => ∃ vs, H l = some (.lst vs) ∧ All2 (E.P H) vs xs) (fun i H x H' => H' = H ∧ ∃ e, xs[i]? = some e ∧ E.P H x e) :=
    ⟨fun i H hi ⟨vs, h1, h2⟩ => by
      obtain ⟨v, hv, _⟩ := h2.getR (List.getElem?_eq_getElem hi)
      exact ⟨vs, v, SqL.of h1, hv⟩, fun H ⟨vs, h1, h2⟩ => ⟨vs, SqL.of h1, Nat.le_of_eq h2.len⟩, fun i H x H' hi ⟨vs, h1, h2⟩ ⟨e, y⟩ => ⟨e, h2.get (y vs (SqL.of h1))⟩⟩
  obtain ⟨R0, t0⟩ := hl 0 b0
  obtain ⟨vs, h1, h2⟩ := t0.ls (s0.to k)
  have z := for_it w (D := ⟨nx, rt, bk, ct⟩) (g := g) (tb := tb) (σ := σ) (H := H) (fun i σ' H' => ∃ b, σ' = sg i b ∧ Holds (Pv i b) H') ⟨b0, h0, s0.to k⟩ (fun i σ' H' _ ⟨b, _, z⟩ => by
    obtain ⟨R, t⟩ := hl i b
    exact t.ls z) (fun i x σ' H' H'' hi ⟨b, e, z⟩ ⟨e2, y, hy, hp⟩ => by subst e e2; exact hs i y x b hy H'' (z.vl hp)) (fun σ' H' ⟨b, e, z⟩ => by subst e; exact hd b H' z)
  have h3 : H l = some (.lst vs) := h1
  exact ⟨l, rfl, ⟨vs, SqL.of h3⟩, z⟩
theorem walk_ls (l : Addr) (xs : List α) : Walk (Itl K l) xs.length (fun H => ∃ vs, H l = some (.lst vs) ∧ All2 (E.P H) vs xs) (fun i H x H' => H' = H ∧ ∃ e, xs[i]? = some e ∧ E.P H x e) :=
  ⟨fun i H hi ⟨vs, h1, h2⟩ => by
    obtain ⟨v, hv, _⟩ := h2.getR (List.getElem?_eq_getElem hi)
    exact ⟨vs, v, SqL.of h1, hv⟩, fun H ⟨vs, h1, h2⟩ => ⟨vs, SqL.of h1, Nat.le_of_eq h2.len⟩, fun i H x H' hi ⟨vs, h1, h2⟩ ⟨e, y⟩ => ⟨e, h2.get (y vs (SqL.of h1))⟩⟩
/-- a comprehension over such a list, what it makes told by another kind -/
theorem e_lcLs {β : Type} {σ : St} {g : TG} {tt : TT} {te : TE} {vs : List Nat} (E' : El K β) (kp : α → Option β) (t : Take (ls E l xs) L R) (hz : xs.length ≤ 100000)
    (step : ∀ x, x ∈ xs → ∀ v D ys (r : VK) (s : Hp → Prop), (∀ v' y, kp x = some y → Ent (vl E' v' y :: ls E' D ys :: L) (r v')) → (kp x = none → Ent (ls E' D ys :: L) s) → Ent (vl E v x :: ls E' D ys :: L) fun H => g v (wipe σ vs) H fun σ2 H2 => wipe σ2 vs = wipe σ vs ∧ tt σ2 H2 fun b H3 => if b = true then te σ2 H3 r else s H3)
    (q : ∀ D, Ent (ls E' D (xs.filterMap kp) :: L) (Q (.ref D))) : Ent L fun H => kLc K g tt te vs σ Q (.ref l) H := fun H k => by
  obtain ⟨ws, h1, h2⟩ := t.ls k
  refine ⟨l, rfl, ⟨ws, SqL.of h1⟩, fun D nD => ?_⟩
  refine lc_it (walk_ls (E := E) l xs) (fun i H' => i ≤ xs.length ∧ Holds (ls E' D ((xs.take i).filterMap kp) :: L) H') ⟨Nat.zero_le _, k.ls_new nD .nil⟩ (fun i H' _ p => t.ls (Sub.to (Sub.drop Sub.refl) p.2)) (fun i v H' H'' hi p ⟨e, x, hx, hp⟩ => ?_) (fun H' p => q D H' (by
    have e := p.2
    rw [List.take_length] at e
    exact e))
  subst e
  have et : xs.take (i + 1) = xs.take i ++ [x] := by rw [List.take_succ, hx]; rfl
  refine step x (List.mem_of_getElem? hx) v D _ _ _ (fun v' y hy H4 z => ?_) (fun hn H3 z => ?_) _ (p.2.vl hp)
  · obtain ⟨ac, z1, z2⟩ := Holds.ls_op (Sub.to (Sub.drop Sub.refl) z)
    have z3 : E'.P H4 v' y := Take.vl take_here z
    refine ⟨ac, z1.pt_get, ?_, hi, ?_⟩
    · rw [z2.len]
      refine Nat.lt_of_le_of_lt (List.length_filterMap_le _ _) (Nat.lt_of_le_of_lt ?_ (by decide : 100000 < sizeLine))
      rw [List.length_take]
      omega
    · rw [et, List.filterMap_append]
      simp only [List.filterMap_cons, hy, List.filterMap_nil]
      exact Holds.ls_upd (Sub.to (Sub.drop Sub.refl) z) (z2.app (.one z3))
  · refine ⟨hi, ?_⟩
    rw [et, List.filterMap_append]
    simp only [List.filterMap_cons, hn, List.filterMap_nil, List.append_nil]
    exact z
theorem all2_maps {γ δ ε : Type} {r : γ → δ → Prop} {f : γ → ε} {g : δ → ε} (e : ∀ x y, r x y → f x = g y) : ∀ {xs : List γ} {ys : List δ}, All2 r xs ys → xs.map f = ys.map g
  | _, _, .nil => rfl
  | _, _, .cons h t => by rw [List.map_cons, List.map_cons, e _ _ h, all2_maps e t]
theorem all2_int : ∀ {vs : List V} {ns : List Int}, All2 (fun v (n : Int) => v = .int n) vs ns → vs = ns.map V.int
  | _, _, .nil => rfl
  | _, _, .cons h t => by rw [List.map_cons, h, all2_int t]
/-- ints, texts as such a list, and back -/
theorem Sub.lsI {ns : List Int} : Sub (pt l (.lst (ns.map V.int)) :: L) (ls (K := K) kI l ns :: L) := Sub.ls_i fun H h => All2.map _ fun y _ => rfl
theorem Sub.Ils {ns : List Int} : Sub (ls (K := K) kI l ns :: L) (pt l (.lst (ns.map V.int)) :: L) := Sub.ls_e fun vs H S h => by
  obtain ⟨S1, S2, h1, ⟨S3, S4, h3, h4⟩, hd, hs⟩ := h
  have e : vs = ns.map V.int := all2_int h3.1
  subst e
  exact (Sub.cons (Sub.drop Sub.refl)) H S ⟨S1, S2, h1, ⟨S3, S4, h3, h4⟩, hd, hs⟩
theorem take_lsI {ns : List Int} (t : Take (pt l (.lst (ns.map V.int))) L R) : Take (ls (K := K) kI l ns) L R := Sub.trans t Sub.lsI
theorem take_Ils {ns : List Int} (t : Take (ls (K := K) kI l ns) L R) : Take (pt l (.lst (ns.map V.int))) L R := Sub.trans t Sub.Ils
/-- what is made of two, three -/
theorem Ent.vI {n : Int} {φ : V → Hp → Prop} (q : Ent L (φ (.int n))) (v : V) : Ent (vl (K := K) kI v n :: L) (φ v) := fun H ⟨S, S1, S2, h1, h2, _⟩ => by
  obtain rfl : v = .int n := h1.1
  exact q H ⟨S2, h2⟩
theorem Ent.vF {f : α → List V} {g : α → List PyData} {hd : ∀ {K : PySem.W.Frag} {H : Hp} (x : α), DpAll K H (f x) (g x)} {φ : V → Hp → Prop} (q : ∀ t, Ent (tu t (f x) :: L) (φ (.ref t))) (v : V) : Ent (vl (K := K) (kF f g hd) v x :: L) (φ v) := fun H ⟨S, S1, S2, ⟨⟨t, e, h⟩, s⟩, h2, hd, hs⟩ => by
  subst e
  exact q t H (Holds.addI ⟨S2, h2⟩ h rfl)
theorem Ent.vT {us : List V} {φ : Hp → Prop} (h : ∀ H, E.P H v x → ∃ t, v = .ref t ∧ H t = some (.tup us)) (q : ∀ t, v = .ref t → Ent (tu t us :: L) φ) : Ent (vl E v x :: L) φ := fun H ⟨S, S1, S2, ⟨h0, s⟩, h2, hd, hs⟩ => by
  obtain ⟨t, e, h⟩ := h H h0
  exact q t e H (Holds.addI ⟨S2, h2⟩ h rfl)
theorem Ent.vIe {n : Int} {φ : Hp → Prop} (q : v = .int n → Ent L φ) : Ent (vl (K := K) kI v n :: L) φ := fun H ⟨S, S1, S2, h1, h2, _⟩ => q h1.1 H ⟨S2, h2⟩
theorem vl_I {n : Int} : ∀ H, Holds L H → (kI (K := K)).P H (.int n) n := fun _ _ => rfl
theorem vl_F {f : α → List V} {g : α → List PyData} {hd : ∀ {K : PySem.W.Frag} {H : Hp} (x : α), DpAll K H (f x) (g x)} {t : Addr} {us : List V} (k : Take (tu t us) L R) (e : us = f x) : ∀ H, Holds L H → (kF (K := K) f g hd).P H (.ref t) x := fun H h => ⟨t, rfl, by rw [← e]; exact k.im h⟩
theorem vl_T {t : Addr} {us : List V} (k : Take (tu t us) L R) (e : ∀ H, H t = some (.tup us) → E.P H (.ref t) x) : ∀ H, Holds L H → E.P H (.ref t) x := fun H h => e H (k.im h)
theorem vl_v (k : Take (vl E v x) L R) : ∀ H, Holds L H → E.P H v x := fun H h => k.vl h
theorem vl_non : ∀ H, Holds L H → (kO E).P H .non none := fun _ _ => rfl
theorem Sub.one {t : Addr} {D : Addr} (k : ∀ H, Holds L H → E.P H v x) : Sub (pt D (.lst [v]) :: L) (ls E D [x] :: L) := Sub.ls_i fun H h => .one (k H h)
theorem take_eqLs {D : Addr} (e : xs = ys) (t : Take (ls E D xs) L R) : Take (ls E D ys) L R := e ▸ t
theorem take_eqVl (e : x = y) (t : Take (vl E v x) L R) : Take (vl E v y) L R := e ▸ t
theorem Sub.vl_i (h : ∀ H, Holds L H → E.P H v x) (s : Sub L M) : Sub L (vl E v x :: M) := fun H S k => by
  obtain ⟨S', k', q⟩ := s H S k
  exact ⟨S', ⟨fun _ => False, S', ⟨h H ⟨S, k⟩, fun _ z => z⟩, k', fun _ z => z.elim, fun a => ⟨.inr, fun z => z.elim (fun z => z.elim) id⟩⟩, q⟩
theorem take_ls0 {D : Addr} (t : Take (pt D (.lst [])) L R) : Take (ls E D []) L R := Sub.trans t (Sub.ls_i fun H h => .nil)
theorem take_ls1 {D : Addr} (t : Take (pt D (.lst [v])) L R) (k : ∀ H, Holds R H → E.P H v x) : Take (ls E D [x]) L R := Sub.trans t (Sub.ls_i fun H h => .one (k H h))
theorem Sub.none_ls {D : Addr} : Sub (pt D (.lst []) :: L) (ls E D [] :: L) := Sub.ls_i fun H h => .nil
end
end
end Toy
namespace Toy
open PySem L2
section
variable {K : PySem.W.Frag} {L M R : List HA} {σ : St} {Q : VK} {ta : TE} {tas tk : TA} {sp : Sp} {E : XK} {C : Addr} {m : Str}
theorem e_call1 (q : Ent L fun H => tas σ H fun vs H1 => sp vs H1 Q E) : Ent L fun H => tCall sp [] E tas σ H Q := by
  have e : (fun (vs : List V) (H1 : Hp) => sp (vs ++ []) H1 Q E) = fun vs H1 => sp vs H1 Q E := by funext vs H1; rw [List.append_nil]
  show Ent L fun H => tas σ H (fun vs H1 => sp (vs ++ []) H1 Q E)
  rw [e]; exact q
theorem e_meth1 (q : Ent L fun H => ta σ H fun x H1 => ∃ a dx fs, x = .ref a ∧ H1 a = some (.ins C dx fs) ∧ fs.lookup m = none ∧ tas σ H1 fun vs H2 => sp (x :: vs) H2 Q E) : Ent L fun H => tMeth C m sp [] E ta tas σ H Q := by
  have e : ∀ x : V, (fun (vs : List V) (H1 : Hp) => sp (x :: (vs ++ [])) H1 Q E) = fun vs H1 => sp (x :: vs) H1 Q E := fun x => by funext vs H1; rw [List.append_nil]
  show Ent L fun H => ta σ H fun x H1 => ∃ a dx fs, x = .ref a ∧ H1 a = some (.ins C dx fs) ∧ fs.lookup m = none ∧ tas σ H1 fun vs H2 => sp (x :: (vs ++ [])) H2 Q E
  simp only [e]; exact q
/-! ### the pot -/
def PotA (p : Addr) : HA := ex fun x : Int => ex fun y : Int => all [pt p (.lst [.int x, .int y]), pu (0 ≤ x ∧ 0 ≤ y ∧ y < 4294967296)]
theorem Sub.pot {L : List HA} {p : Addr} {x y : Int} (h : 0 ≤ x ∧ 0 ≤ y ∧ y < 4294967296) : Sub (pt p (.lst [.int x, .int y]) :: L) (PotA p :: L) := Sub.ex x (Sub.ex y (Sub.all (Sub.cons (Sub.pu h Sub.refl))))
theorem Ent.pot {L : List HA} {p : Addr} {φ : Hp → Prop} (e : ∀ x y : Int, 0 ≤ x → 0 ≤ y → y < 4294967296 → Ent (pt p (.lst [.int x, .int y]) :: L) φ) : Ent (PotA p :: L) φ := Ent.ex fun x => Ent.ex fun y => Ent.all (Ent.sub Sub.swap (Ent.pu fun ⟨h1, h2, h3⟩ => e x y h1 h2 h3))
def aPot (K : PySem.W.Frag) : Sp := fun vs H Q _ => ∃ (s : Addr) (ns : List Int) (k : Int) (F : List HA), vs = [.ref s, .int k] ∧ Holds (sq K s (ns.map V.int) :: F) H ∧ 0 ≤ k ∧ k ≤ 1000 ∧ ∀ p, Ent (PotA p :: sq K s (ns.map V.int) :: F) (Q (.ref p))
def aDraw : Sp := fun vs H Q _ => ∃ (p : Addr) (n : Int) (F : List HA), vs = [.ref p, .int n] ∧ Holds (PotA p :: F) H ∧ 0 < n ∧ n < 1000000000 ∧ ∀ d, 0 ≤ d → d < n → Ent (PotA p :: F) (Q (.int d))
def aPick (K : PySem.W.Frag) : Sp := fun vs H Q _ => ∃ (p s : Addr) (n : Nat) (F : List HA) (G : Nat → V → List HA), vs = [.ref p, .ref s] ∧ Holds (PotA p :: F) H ∧ 0 < n ∧ n < 1000000000 ∧
  (∀ H, Holds (PotA p :: F) H → ∃ us, us.length = n ∧ SqL K H s us ∧ ∀ d v, us[d]? = some v → Holds (G d v) H) ∧ ∀ d v, d < n → Ent (G d v) (Q v)
variable {p s : Addr} {ns : List Int} {k n : Int}
theorem e_pot (t : Take (sq K s (ns.map V.int)) L R) (h0 : 0 ≤ k) (h1 : k ≤ 1000) (q : ∀ p, Ent (PotA p :: sq K s (ns.map V.int) :: R) (Q (.ref p))) : Ent L fun H => aPot K [.ref s, .int k] H Q E := fun H h => ⟨s, ns, k, R, rfl, t.to h, h0, h1, q⟩
theorem e_draw (t : Take (PotA p) L R) (h0 : 0 < n) (h1 : n < 1000000000) (q : ∀ d, 0 ≤ d → d < n → Ent (PotA p :: R) (Q (.int d))) : Ent L fun H => aDraw [.ref p, .int n] H Q E := fun H h => ⟨p, n, R, rfl, t.to h, h0, h1, q⟩
theorem e_pick {us : List V} (t : Take (PotA p) L R) (hl : HasL K R s us) (h0 : 0 < us.length) (h1 : us.length < 1000000000) (q : ∀ (d : Nat) v, us[d]? = some v → Ent (PotA p :: R) (Q v)) : Ent L fun H => aPick K [.ref p, .ref s] H Q E := fun H h =>
  ⟨p, s, us.length, R, fun d v => [pu (us[d]? = some v), all (PotA p :: R)], rfl, t.to h, h0, h1, fun H h => ⟨us, rfl, hl H (Sub.to (Sub.drop Sub.refl) h), fun d v e => Sub.to (Sub.pu e (Sub.all (by show Sub _ ((PotA p :: R) ++ []); rw [List.append_nil]; exact Sub.refl))) h⟩, fun d v _ => Ent.pu fun e => Ent.all (by rw [List.append_nil]; exact q d v e)⟩
theorem e_pickLs {α : Type} {El : El K α} {xs : List α} {R' : List HA} (t : Take (PotA p) L R) (hl : Take (ls El s xs) R R') (h0 : 0 < xs.length) (h1 : xs.length < 1000000000) (q : ∀ (d : Nat) x v, xs[d]? = some x → Ent (vl El v x :: PotA p :: R) (Q v)) : Ent L fun H => aPick K [.ref p, .ref s] H Q E := fun H h =>
  ⟨p, s, xs.length, R, fun d v => [ex fun x => all [pu (xs[d]? = some x), vl El v x, all (PotA p :: R)]], rfl, t.to h, h0, h1, fun H h => by
    obtain ⟨us, h1, h2⟩ := hl.ls (Sub.to (Sub.drop Sub.refl) h)
    refine ⟨us, h2.len, SqL.of h1, fun d v e => ?_⟩
    obtain ⟨x, hx, hp⟩ := h2.get e
    exact Sub.to (Sub.ex x (Sub.all (Sub.pu hx (Sub.cons (Sub.all (by show Sub _ ((PotA p :: R) ++ []); rw [List.append_nil]; exact Sub.refl)))))) (h.vl hp), fun d v _ => Ent.ex fun x => Ent.all (Ent.pu fun e => (by
    refine Ent.sub (M := vl El v x :: PotA p :: R) (Sub.cons ?_) (q d x v e)
    refine Sub.trans Sub.all_e ?_
    show Sub ((PotA p :: R) ++ []) _
    rw [List.append_nil]
    exact Sub.refl))⟩
/-! ### what is asked of plain values -/
variable {v : V} {b : Bool} {x y z u : Int}
theorem e_isInt (h : KInt K (fun _ => none) v b) (q : Ent L (Q (.bl b))) : True := trivial
theorem kintI {H : Hp} (n : Int) : KInt K H (.int n) true := kint_int n
theorem e_integer (q : Ent L (Q (.bl true))) : Ent L fun H => spInt K [.int x] H Q E := fun H h => ⟨_, _, rfl, kint_int x, q H h⟩
theorem e_count (q : Ent L (Q (.bl (decide (0 ≤ x))))) : Ent L fun H => spCount K [.int x] H Q E := fun H h => ⟨_, rfl, kint_int x, q H h⟩
theorem e_isWord (q : Ent L (Q (.bl (isWord (.int x))))) : Ent L fun H => spIsWord K [.int x] H Q E := fun H h => ⟨_, rfl, kint_int x, q H h⟩
theorem e_wantWord (h : W16 x) (q : Ent L (Q .non)) : Ent L fun H => spWantWord K C [.int x] H Q E := fun H k => w_wantWord h (q H k)
theorem e_wantMany {lo hi : Int} (h0 : 0 ≤ x) (h1 : lo ≤ x) (h2 : x ≤ hi) (q : Ent L (Q .non)) : Ent L fun H => spWantMany K C [.int x, .int lo, .int hi] H Q E := fun H k => w_wantMany h0 h1 h2 (q H k)
theorem e_W2 {f : Int → Int → Int} {ok : Int → Int → Prop} (h : ok x y) (q : Ent L (Q (.int (f x y)))) : Ent L fun H => spW2 f ok [.int x, .int y] H Q E := fun H k => ⟨x, y, rfl, h, q H k⟩
theorem e_I1 {f : Int → Int} {ok : Int → Prop} (h : ok x) (q : Ent L (Q (.int (f x)))) : Ent L fun H => spI1 f ok [.int x] H Q E := fun H k => ⟨x, rfl, h, q H k⟩
theorem e_I3 {f : Int → Int → Int → Int} {ok : Int → Int → Int → Prop} (h : ok x y z) (q : Ent L (Q (.int (f x y z)))) : Ent L fun H => spI3 f ok [.int x, .int y, .int z] H Q E := fun H k => ⟨x, y, z, rfl, h, q H k⟩
theorem e_I4 {f : Int → Int → Int → Int → Int} {ok : Int → Int → Int → Int → Prop} (h : ok x y z u) (q : Ent L (Q (.int (f x y z u)))) : Ent L fun H => spI4 f ok [.int x, .int y, .int z, .int u] H Q E := fun H k => ⟨x, y, z, u, rfl, h, q H k⟩
/-- a number asked for: True where ok; a def that returns a bool of ints -/
def aB1 (f : Int → Bool) : Sp := fun vs H Q _ => ∃ x : Int, vs = [.int x] ∧ Q (.bl (f x)) H
def aW1 (ok : Int → Prop) : Sp := fun vs H Q _ => ∃ x : Int, vs = [.int x] ∧ ok x ∧ Q .non H
theorem e_B1 {f : Int → Bool} (q : Ent L (Q (.bl (f x)))) : Ent L fun H => aB1 f [.int x] H Q E := fun H k => ⟨x, rfl, q H k⟩
theorem e_W1 {ok : Int → Prop} (h : ok x) (q : Ent L (Q .non)) : Ent L fun H => aW1 ok [.int x] H Q E := fun H k => ⟨x, rfl, h, q H k⟩
end
end Toy
namespace Toy
open PySem L2
/-! ### repr of plain values -/
def shV : V → Str
  | .non => "None"
  | .bl b => if b then "True" else "False"
  | .int i => toString i
  | .str x => reprText x
  | _ => ""
def okS : V → Prop
  | .non => True
  | .bl _ => True
  | .int i => i.natAbs.log2 < 1920
  | .str x => (reprText x).length ≤ sizeLine
  | _ => False
def rReprS : List V → Hp → VK → Prop := fun vs H Q => ∃ v, vs = [v] ∧ okS v ∧ Q (.str (shV v)) H
section
open PySem.Spec PyProof.Rows
theorem call_reprS {X : Cx} : CallR X (.builtin "repr") rReprS := by
  intro pins s σ H xs us Q I r h
  obtain ⟨v, rfl, ok, q⟩ := h
  obtain ⟨u, rfl, rx⟩ := vals1 r
  cases v with
  | non => cases rx; exact PySem.P.repr_of_none ⟨.str _, H, I.tok _, ⟨_, rfl⟩, q⟩
  | bl b => cases rx; exact PySem.P.repr_of_bool ⟨.str _, H, I.tok _, ⟨_, rfl⟩, q⟩
  | int i => obtain ⟨t, rfl⟩ := rx; exact PySem.P.repr_of_int ok ⟨.str _, H, I.tok _, ⟨_, rfl⟩, q⟩
  | str x => obtain ⟨t, rfl⟩ := rx; exact PySem.P.repr_of_str ⟨.str _, H, I.tok _, ⟨_, rfl⟩, q⟩ ok
  | byt _ => exact ok.elim
  | flt _ => exact ok.elim
  | ref _ => exact ok.elim
  | ty _ => exact ok.elim
end
theorem small_log {i : Int} (h : i.natAbs < 2 ^ 64) : i.natAbs.log2 < 1920 := by
  by_cases z : i.natAbs = 0
  · rw [z]; decide
  · have := (Nat.log2_lt z).mpr h
    omega
section
variable {K : PySem.W.Frag} {L M R : List HA} {Q : VK} {a b : Addr} {v : V}
theorem e_reprN (q : Ent L (Q (.str "None"))) : Ent L fun H => rReprS [.non] H Q := fun H k => ⟨_, rfl, trivial, q H k⟩
theorem e_reprB {b : Bool} (q : Ent L (Q (.str (if b then "True" else "False")))) : Ent L fun H => rReprS [.bl b] H Q := fun H k => ⟨_, rfl, trivial, q H k⟩
theorem e_reprI {i : Int} (h : -1000000000000 ≤ i ∧ i ≤ 1000000000000) (q : Ent L (Q (.str (toString i)))) : Ent L fun H => rReprS [.int i] H Q := fun H k => ⟨_, rfl, small_log (by omega), q H k⟩
theorem truth_ne : ¬ (("True" : Str) = "False") := by decide +kernel
theorem e_neB {b c : Bool} (q : Ent L (Q (.bl (b != c)))) : Ent L fun H => rNe (.str (if b then "True" else "False")) (.str (if c then "True" else "False")) H Q := fun H k => ⟨rfl, by
  have e : decide (V.str (if b then "True" else "False") = V.str (if c then "True" else "False")) = (b == c) := by
    cases b <;> cases c <;> simp [truth_ne, Ne.symm truth_ne]
  rw [e]
  exact q H k⟩
end
/-! ### walks that make pairs -/
section
variable {K : PySem.W.Frag} {L M R : List HA} {Q : VK} {l : Addr} {α β : Type} {E : El K α} {σ : St}
def kLcEn (K : PySem.W.Frag) (g : TG) (tt : TT) (te : TE) (vs : List Nat) (σ : St) (Q : VK) (us : List V) (H : Hp) : Prop := kEnum K (fun J H1 => ∀ D, H1 D = none → ∃ W : Nat → Nat → Hp → Prop, (∃ m, W 0 m (upd H1 D (.lst []))) ∧ ∀ i m H, W i m H →
      (J.stop i H ∧ Q (.ref D) H) ∨ (J.go i H ∧ ∃ Nx : Hp → Prop, (∀ H', Nx H' → ∃ m', m' < m ∧ W (i + 1) m' H') ∧ ∀ x H', J.yld i H x H' → g x (wipe σ vs) H' fun σ2 H2 => wipe σ2 vs = wipe σ vs ∧ tt σ2 H2 fun b H3 =>
        if b = true then te σ2 H3 fun y H4 => ∃ acc, H4 D = some (.lst acc) ∧ acc.length < sizeLine ∧ Nx (upd H4 D (.lst (acc ++ [y]))) else Nx H3)) us H
theorem e_lcE0 {g : TG} {tt : TT} {te : TE} {vs : List Nat} {tas : TA} (q : Ent L fun H => tas σ H (kLcEn K g tt te vs σ Q)) : Ent L fun H => tLc (iEnum K tas) g tt te vs σ H Q := q
/-- [.. for i, x in enumerate(l) if ..] -/
theorem e_lcEn {xs : List α} {g : TG} {tt : TT} {te : TE} {vs : List Nat} (E' : El K β) (kp : Nat → α → Option β) (t : Take (ls E l xs) L R) (hz : xs.length ≤ 100000)
    (step : ∀ i x, xs[i]? = some x → ∀ p v D ys (r : VK) (s : Hp → Prop), (∀ v' y, kp i x = some y → Ent (vl E' v' y :: ls E' D ys :: L) (r v')) → (kp i x = none → Ent (ls E' D ys :: L) s) → Ent (tu p [.int i, v] :: vl E v x :: ls E' D ys :: L) fun H => g (.ref p) (wipe σ vs) H fun σ2 H2 => wipe σ2 vs = wipe σ vs ∧ tt σ2 H2 fun b H3 => if b = true then te σ2 H3 r else s H3)
    (q : ∀ D, Ent (ls E' D ((List.range xs.length).filterMap fun i => xs[i]?.bind (kp i)) :: L) (Q (.ref D))) : Ent L fun H => kLcEn K g tt te vs σ Q [.ref l] H := fun H k => by
  obtain ⟨ws, h1, h2⟩ := t.ls k
  refine ⟨l, ws, rfl, SqL.of h1, fun D nD => ?_⟩
  have w : Walk (Ite K l) xs.length (fun H => ∃ vs, H l = some (.lst vs) ∧ All2 (E.P H) vs xs) (fun i H v H' => ∃ T x u, v = .ref T ∧ H T = none ∧ H' = upd H T (.tup [.int i, u]) ∧ xs[i]? = some x ∧ E.P H u x) :=
    ⟨fun i H hi ⟨vs, z1, z2⟩ => (walk_enum (K := K) (a := l) (xs := vs)).goes i H (by rw [z2.len]; exact hi) (SqL.of z1), fun H ⟨vs, z1, z2⟩ => by
      have := (walk_enum (K := K) (a := l) (xs := vs)).stops H (SqL.of z1)
      rw [z2.len] at this
      exact this, fun i H x H' hi ⟨vs, z1, z2⟩ y => by
      obtain ⟨T, a, b, e1, e2, e3, e4, e5⟩ := (walk_enum (K := K) (a := l) (xs := vs)).yields i H x H' (by rw [z2.len]; exact hi) (SqL.of z1) y
      obtain rfl : V.int (i : Nat) = a := Option.some.inj e4
      obtain ⟨x', hx, hp⟩ := z2.get e5
      exact ⟨T, x', b, e1, e2, e3, hx, hp⟩⟩
  refine lc_it w (fun i H' => i ≤ xs.length ∧ Holds (ls E' D ((List.range i).filterMap fun i => xs[i]?.bind (kp i)) :: L) H') ⟨Nat.zero_le _, k.ls_new nD .nil⟩ (fun i H' _ p => t.ls (Sub.to (Sub.drop Sub.refl) p.2)) (fun i v H' H'' hi p ⟨T, x, u, e, nT, eH, hx, hp⟩ => ?_) (fun H' p => q D H' p.2)
  subst e eH
  have et : (List.range (i + 1)).filterMap (fun i => xs[i]?.bind (kp i)) = (List.range i).filterMap (fun i => xs[i]?.bind (kp i)) ++ (kp i x).toList := by
    rw [List.range_succ, List.filterMap_append]
    cases z : kp i x <;> simp [hx, z]
  have z0 : Holds (tu T [.int i, u] :: vl E u x :: ls E' D ((List.range i).filterMap fun i => xs[i]?.bind (kp i)) :: L) (upd H' T (.tup [.int i, u])) := Sub.to Sub.swap (by
    have z := (p.2.newI (o := .tup [.int i, u]) nT rfl).vl (E := E) (x := x) (v := u) (E.st hp (keepI_new nT))
    exact z)
  refine step i x hx T u D _ _ _ (fun v' y hy H4 z => ?_) (fun hn H3 z => ?_) _ z0
  · obtain ⟨ac, z1, z2⟩ := Holds.ls_op (Sub.to (Sub.drop Sub.refl) z)
    have z3 : E'.P H4 v' y := Take.vl take_here z
    refine ⟨ac, z1.pt_get, ?_, hi, ?_⟩
    · rw [z2.len]
      refine Nat.lt_of_le_of_lt (List.length_filterMap_le _ _) (Nat.lt_of_le_of_lt ?_ (by decide : 100000 < sizeLine))
      rw [List.length_range]
      omega
    · rw [et, hy]
      exact Holds.ls_upd (Sub.to (Sub.drop Sub.refl) z) (z2.app (.one z3))
  · refine ⟨hi, ?_⟩
    rw [et, hn]
    simp only [Option.toList_none, List.append_nil]
    exact z
end
end Toy
namespace Toy
open PySem L2
section
variable {K : PySem.W.Frag} {L R : List HA} {l : Addr} {ns : List Int} {H : Hp} {Q : VK}
theorem all2_I {vs : List V} (h : All2 ((kI (K := K)).P H) vs ns) : vs = ns.map V.int := by
  induction h with
  | nil => rfl
  | cons h _ ih => rw [List.map_cons, ← ih]; exact congrArg (· :: _) h
theorem e_sortI (t : Take (ls (kI (K := K)) l ns) L R) (q : ∀ (ns' : List Int) p, ns'.Perm ns → ns'.Pairwise (· ≤ ·) → Ent (ls (kI (K := K)) p ns' :: L) (Q (.ref p))) : Ent L fun H => rSortedI K [.ref l] H Q := fun H k => by
  obtain ⟨vs, h1, h2⟩ := t.ls k
  have e := all2_I h2
  subst e
  exact ⟨l, ns, rfl, SqL.of h1, fun ns' p hp hs np => q ns' p hp hs _ (k.ls_new np (All2.map V.int fun _ _ => rfl))⟩
end
end Toy
namespace Toy
open PySem L2
/-! ## mirrors: what a def does, told over plain values, handing on to what follows -/
def obx {α : Type} (o : Option α) (k : α → Prop) : Prop := ∃ x, o = some x ∧ k x
def grd (c k : Prop) : Prop := c ∧ k
def jn {M : Type} (k : M → Prop) (f : (M → Prop) → Prop) : Prop := f k
def drw (n : Int) (k : Int → Prop) : Prop := 0 < n ∧ n < 1000000000 ∧ ∀ d, 0 ≤ d → d < n → k d
def pck {α : Type} (xs : List α) (k : α → Prop) : Prop := (0 < xs.length ∧ xs.length < 1000000000) ∧ ∀ x ∈ xs, k x
def forL {α M : Type} : List α → M → (α → M → (M → Prop) → (M → Prop) → Prop) → (M → Prop) → Prop
  | [], m, _, k => k m
  | x :: xs, m, b, k => b x m (fun m' => forL xs m' b k) k
def lcL {α β : Type} : List α → List β → (α → (Option β → Prop) → Prop) → (List β → Prop) → Prop
  | [], acc, _, k => k acc
  | x :: xs, acc, b, k => b x fun o => lcL xs (acc ++ o.toList) b k
def whL {M : Type} (b : M → (M → Prop) → (M → Prop) → Prop) (k : M → Prop) : Nat → M → Prop
  | 0, _ => False
  | n + 1, m => b m (fun m' => whL b k n m') k
section
variable {α β M : Type} {k k' : M → Prop}
theorem obx_some {x : α} {k : α → Prop} : obx (some x) k = k x := by simp [obx]
theorem obx_none {k : α → Prop} : obx none k = False := by simp [obx]
theorem grd_true {c k : Prop} (h : c) : grd c k = k := by simp [grd, h]
theorem drw_ok {n : Int} {k : Int → Prop} (h0 : 0 < n ∧ n < 1000000000) (h : ∀ d, 0 ≤ d → d < n → k d) : drw n k := ⟨h0.1, h0.2, h⟩
theorem pck_ok {xs : List α} {k : α → Prop} (h0 : 0 < xs.length ∧ xs.length < 1000000000) (h : ∀ x ∈ xs, k x) : pck xs k := ⟨h0, h⟩
theorem jn_eq {f : (M → Prop) → Prop} : jn k f = f k := rfl
theorem forL_nil {m : M} {b : α → M → (M → Prop) → (M → Prop) → Prop} : forL [] m b k = k m := rfl
theorem forL_cons {m : M} {x : α} {xs : List α} {b : α → M → (M → Prop) → (M → Prop) → Prop} : forL (x :: xs) m b k = b x m (fun m' => forL xs m' b k) k := rfl
/-- by an invariant -/
theorem forL_inv {xs : List α} {b : α → M → (M → Prop) → (M → Prop) → Prop} (I : Nat → M → Prop) {m : M} (h0 : I 0 m) (step : ∀ i x m nx, xs[i]? = some x → I i m → (∀ m', I (i + 1) m' → nx m') → b x m nx k) (hd : ∀ m, I xs.length m → k m) : forL xs m b k := by
  have key : ∀ (ys : List α) (i : Nat) (m : M), xs.drop i = ys → i ≤ xs.length → I i m → forL ys m b k := by
    intro ys
    induction ys with
    | nil =>
      intro i m e hi h
      have : i = xs.length := by
        have := List.drop_eq_nil_iff.mp e
        omega
      subst this
      exact hd m h
    | cons y ys ih =>
      intro i m e hi h
      have hx : xs[i]? = some y := by
        have := congrArg (fun l => l[0]?) e
        simpa using this
      have hlt : i < xs.length := (List.getElem?_eq_some_iff.mp hx).1
      refine step i y m _ hx h fun m' h' => ih (i + 1) m' ?_ (by omega) h'
      have := congrArg List.tail e
      simpa using this
  exact key xs 0 m rfl (Nat.zero_le _) h0
/-- a loop whose turns hand on a value: a fold -/
theorem forL_fold {xs : List α} {b : α → M → (M → Prop) → (M → Prop) → Prop} (f : M → α → M) {m : M} (step : ∀ x ∈ xs, ∀ m nx, b x m nx k = nx (f m x)) : forL xs m b k = k (xs.foldl f m) := by
  induction xs generalizing m with
  | nil => rfl
  | cons x xs ih =>
    rw [forL_cons, step x (List.mem_cons_self ..), ih fun y hy => step y (List.mem_cons_of_mem _ hy)]
    rfl
theorem lcL_map {xs : List α} {acc : List β} {b : α → (Option β → Prop) → Prop} {k : List β → Prop} (f : α → Option β) (step : ∀ x ∈ xs, ∀ nx, b x nx = nx (f x)) : lcL xs acc b k = k (acc ++ xs.filterMap f) := by
  induction xs generalizing acc with
  | nil => simp [lcL]
  | cons x xs ih =>
    rw [lcL, step x (List.mem_cons_self ..), ih fun y hy => step y (List.mem_cons_of_mem _ hy)]
    congr 1
    cases h : f x <;> simp [List.filterMap_cons, h]
theorem lcL_some {xs : List α} {acc : List β} {k : List β → Prop} (f : α → β) : lcL xs acc (fun x nx => nx (some (f x))) k = k (acc ++ xs.map f) := by
  rw [lcL_map (fun x => some (f x)) fun x _ nx => rfl]
  simp
theorem lcL_if {xs : List α} {acc : List β} {k : List β → Prop} (p : α → Prop) [DecidablePred p] (f : α → β) : lcL xs acc (fun x nx => if p x then nx (some (f x)) else nx none) k = k (acc ++ (xs.filter p).map f) := by
  rw [lcL_map (fun x => if p x then some (f x) else none) fun x _ nx => by by_cases h : p x <;> simp [h]]
  congr 2
  induction xs with
  | nil => rfl
  | cons x xs ih => by_cases h : p x <;> simp [h, ih]
theorem lcL_filter {xs : List α} {acc : List α} {k : List α → Prop} (p : α → Prop) [DecidablePred p] : lcL xs acc (fun x nx => if p x then nx (some x) else nx none) k = k (acc ++ xs.filter p) := by
  have := lcL_if (xs := xs) (acc := acc) (k := k) p (fun x => x)
  simpa using this
theorem lcL_filterN {xs : List α} {acc : List α} {k : List α → Prop} (p : α → Prop) [DecidablePred p] : lcL xs acc (fun x nx => if p x then nx none else nx (some x)) k = k (acc ++ xs.filter fun x => ¬ p x) := by
  rw [lcL_map (fun x => if p x then none else some x) fun x _ nx => by by_cases h : p x <;> simp [h]]
  congr 2
  induction xs with
  | nil => rfl
  | cons x xs ih => by_cases h : p x <;> simp [h, ih]
/-- by an invariant over what is made -/
theorem lcL_inv {xs : List α} {b : α → (Option β → Prop) → Prop} {k : List β → Prop} (I : Nat → List β → Prop) {acc : List β} (h0 : I 0 acc) (step : ∀ i x acc nx, xs[i]? = some x → I i acc → (∀ o, I (i + 1) (acc ++ Option.toList o) → nx o) → b x nx) (hd : ∀ acc, I xs.length acc → k acc) : lcL xs acc b k := by
  have key : ∀ (ys : List α) (i : Nat) (acc : List β), xs.drop i = ys → i ≤ xs.length → I i acc → lcL ys acc b k := by
    intro ys
    induction ys with
    | nil =>
      intro i m e hi h
      have : i = xs.length := by
        have := List.drop_eq_nil_iff.mp e
        omega
      subst this
      exact hd m h
    | cons y ys ih =>
      intro i m e hi h
      have hx : xs[i]? = some y := by
        have := congrArg (fun l => l[0]?) e
        simpa using this
      refine step i y m _ hx h fun o h' => ih (i + 1) _ ?_ (by have := (List.getElem?_eq_some_iff.mp hx).1; omega) h'
      have := congrArg List.tail e
      simpa using this
  exact key xs 0 acc rfl (Nat.zero_le _) h0
end
/-! ### kinds: tuples of kinds -/
structure Els (K : PySem.W.Frag) (α : Type) where
  P : Hp → List V → α → Prop
  st : ∀ {H H' : Hp} {vs : List V} {x : α}, P H vs x → KeepI H H' → P H' vs x
  d : α → List PyData
  dp : ∀ {H : Hp} {vs : List V} {x : α}, P H vs x → DpAll K H vs (d x)
section
variable {K : PySem.W.Frag} {α β γ : Type}
def kNil : Els K Unit := ⟨fun _ vs _ => vs = [], fun h _ => h, fun _ => [], fun h => by subst h; exact .nil⟩
def kC1 (A : El K α) : Els K α := ⟨fun H vs x => ∃ v, vs = [v] ∧ A.P H v x, fun ⟨v, e, h⟩ k => ⟨v, e, A.st h k⟩, fun x => [A.d x], fun ⟨v, e, h⟩ => by subst e; exact .cons (A.dp h) .nil⟩
def kC (A : El K α) (B : Els K β) : Els K (α × β) := ⟨fun H vs x => ∃ v us, vs = v :: us ∧ A.P H v x.1 ∧ B.P H us x.2, fun ⟨v, us, e, h, h2⟩ k => ⟨v, us, e, A.st h k, B.st h2 k⟩, fun x => A.d x.1 :: B.d x.2, fun ⟨v, us, e, h, h2⟩ => by subst e; exact .cons (A.dp h) (B.dp h2)⟩
def kTup (B : Els K α) : El K α := ⟨fun H v x => ∃ t us, v = .ref t ∧ H t = some (.tup us) ∧ B.P H us x, fun ⟨t, us, e, h, h2⟩ k => ⟨t, us, e, k t _ h (.inr rfl), B.st h2 k⟩, fun x => .tuple (B.d x), fun ⟨t, us, e, h, h2⟩ => by subst e; exact .tup (SqT.of h) (B.dp h2)⟩
def kN : El K Unit := ⟨fun _ v _ => v = .non, fun h _ => h, fun _ => .none, fun h => by subst h; exact .non⟩
/-- a text that == looks at -/
def kSt : El K Str := ⟨fun _ v x => v = .str x ∧ PyData.strOk x = true, fun h _ => h, .str, fun h => by obtain ⟨h, _⟩ := h; subst h; exact .str _⟩
/-- one of two kinds -/
def kU (A : El K α) (B : El K β) : El K (α ⊕ β) := ⟨fun H v x => match x with | .inl a => A.P H v a | .inr b => B.P H v b, fun {H H' v x} h k => by
  cases x with
  | inl a => exact A.st h k
  | inr b => exact B.st h k, fun x => match x with | .inl a => A.d a | .inr b => B.d b, fun {H v x} h => by
  cases x with
  | inl a => exact A.dp h
  | inr b => exact B.dp h⟩
/-! told apart by == -/
class ElD [DecidableEq α] (E : El K α) where
  n : Nat
  lay : ∀ {H v x}, E.P H v x → (E.d x).canLay0 = true
  dep : ∀ x, (E.d x).depth ≤ n
  eqv : ∀ x y, PyData.eqv (E.d x) (E.d y) = decide (x = y)
class ElN (E : El K α) : Prop where
  non : ∀ x, PyData.eqv .none (E.d x) = false ∧ PyData.eqv (E.d x) .none = false
  nv : ∀ H v x, E.P H v x → v ≠ .non
class ElsD [DecidableEq α] (E : Els K α) where
  n : Nat
  lay : ∀ {H v x}, E.P H v x → PyData.canLayAll0 (E.d x) = true
  dep : ∀ x, PyData.depthAll (E.d x) ≤ n
  eqv : ∀ x y, PyData.eqvAll (E.d x) (E.d y) = decide (x = y)
@[reducible] def elD_of [DecidableEq α] {E : El K α} {n : Nat} (h : DtOk E.d n) : ElD E := ⟨n, fun _ => h.lay _, h.dep, h.eqv⟩
instance : ElD (kI (K := K)) := elD_of DtOk.int
instance : ElN (kI (K := K)) := ⟨DtOk.int.non, fun H v x h z => by have h : v = .int x := h; rw [h] at z; cases z⟩
instance : ElD (kB (K := K)) := ⟨0, fun {_ _ x} _ => by show (PyData.bool x).canLay0 = true; rw [PyData.canLay0], fun x => by show (PyData.bool x).depth ≤ 0; simp [PyData.depth], fun x y => by
  show PyData.eqv (.bool x) (.bool y) = _
  cases x <;> cases y <;> simp [PyData.eqv]⟩
instance : ElN (kB (K := K)) := ⟨fun x => by show PyData.eqv .none (.bool x) = false ∧ _; constructor <;> simp [PyData.eqv, kB], fun H v x h z => by have h : v = .bl x := h; rw [h] at z; cases z⟩
instance : ElD (kSt (K := K)) := ⟨0, fun {_ _ x} h => by show (PyData.str x).canLay0 = true; rw [PyData.canLay0]; exact h.2, fun x => by show (PyData.str x).depth ≤ 0; simp [PyData.depth], fun x y => by
  show PyData.eqv (.str x) (.str y) = _
  simp only [PyData.eqv]
  by_cases h : x = y
  · subst h; simp
  · rw [decide_eq_false h]; simpa using h⟩
instance : ElN (kSt (K := K)) := ⟨fun x => by show PyData.eqv .none (.str x) = false ∧ _; constructor <;> simp [PyData.eqv, kSt], fun H v x h z => by have h : v = .str x := h.1; rw [h] at z; cases z⟩
instance : ElD (kN (K := K)) := ⟨0, fun _ => by show PyData.none.canLay0 = true; rw [PyData.canLay0], fun x => by show PyData.none.depth ≤ 0; simp [PyData.depth], fun x y => by
  show PyData.eqv .none .none = _
  simp [PyData.eqv]⟩
instance [DecidableEq α] {E : El K α} [D : ElD E] [N : ElN E] : ElD (kO E) := ⟨D.n, fun {H v x} h => by
  cases x with
  | none => show PyData.none.canLay0 = true; rw [PyData.canLay0]
  | some y => exact D.lay (show E.P H v y from h), fun x => by
  cases x with
  | none => show PyData.none.depth ≤ _; simp [PyData.depth]
  | some y => exact D.dep y, fun x y => by
  cases x with
  | none => cases y with
    | none => show PyData.eqv .none .none = _; simp [PyData.eqv]
    | some y => show PyData.eqv .none (E.d y) = _; rw [(N.non y).1]; simp
  | some x => cases y with
    | none => show PyData.eqv (E.d x) .none = _; rw [(N.non x).2]; simp
    | some y => show PyData.eqv (E.d x) (E.d y) = _; rw [D.eqv]; simp⟩
instance : ElsD (kNil (K := K)) := ⟨0, fun _ => rfl, fun _ => by show PyData.depthAll [] ≤ 0; simp [PyData.depthAll], fun x y => by show PyData.eqvAll [] [] = _; simp [PyData.eqvAll]⟩
instance [DecidableEq α] {A : El K α} [D : ElD A] : ElsD (kC1 A) := ⟨D.n, fun {H vs x} h => by show PyData.canLayAll0 [A.d x] = true; obtain ⟨v, _, h⟩ := h; simp [PyData.canLayAll0, D.lay h], fun x => by
  have := D.dep x
  show PyData.depthAll [A.d x] ≤ _
  simp [PyData.depthAll]; omega, fun x y => by show PyData.eqvAll [A.d x] [A.d y] = _; simp [PyData.eqvAll, D.eqv]⟩
instance [DecidableEq α] [DecidableEq β] {A : El K α} {B : Els K β} [D : ElD A] [F : ElsD B] : ElsD (kC A B) := ⟨max D.n F.n, fun {H vs x} h => by show PyData.canLayAll0 (A.d x.1 :: B.d x.2) = true; obtain ⟨v, us, _, h, h2⟩ := h; simp [PyData.canLayAll0, D.lay h, F.lay h2], fun x => by
  have h1 := D.dep x.1
  have h2 := F.dep x.2
  show PyData.depthAll (A.d x.1 :: B.d x.2) ≤ _
  simp only [PyData.depthAll] at h2 ⊢; omega, fun x y => by
  show PyData.eqvAll (A.d x.1 :: B.d x.2) (A.d y.1 :: B.d y.2) = _
  obtain ⟨a, b⟩ := x
  obtain ⟨a', b'⟩ := y
  simp only [PyData.eqvAll, D.eqv, F.eqv, Prod.mk.injEq]
  by_cases h : a = a' <;> by_cases h2 : b = b' <;> simp [h, h2]⟩
instance [DecidableEq α] {B : Els K α} [F : ElsD B] : ElD (kTup B) := ⟨F.n + 1, fun {H v x} h => by show (PyData.tuple (B.d x)).canLay0 = true; rw [PyData.canLay0]; obtain ⟨t, us, _, _, h⟩ := h; exact F.lay h, fun x => by
  have := F.dep x
  show (PyData.tuple (B.d x)).depth ≤ _
  simp only [PyData.depth]; omega, fun x y => by
  show PyData.eqv (.tuple (B.d x)) (.tuple (B.d y)) = _
  rw [PyData.eqv]; exact F.eqv x y⟩
instance {B : Els K α} : ElN (kTup B) := ⟨fun x => by show PyData.eqv .none (.tuple (B.d x)) = false ∧ PyData.eqv (.tuple (B.d x)) .none = false; constructor <;> simp [PyData.eqv], fun H v x h z => by obtain ⟨t, us, e, _⟩ := h; rw [e] at z; cases z⟩
section
variable [DecidableEq α] {A : El K α} [D : ElD A]
theorem ElD.layAll {H : Hp} {vs : List V} {xs : List α} (h : All2 (A.P H) vs xs) : PyData.canLayAll0 (xs.map A.d) = true := by
  induction h with
  | nil => rfl
  | cons h _ ih =>
    rw [List.map_cons]
    simp only [PyData.canLayAll0, D.lay h, ih, Bool.and_self]
theorem ElD.depAll (xs : List α) : PyData.depthAll (xs.map A.d) ≤ D.n := by
  induction xs with
  | nil => simp [PyData.depthAll]
  | cons x xs h1 =>
    have h2 := D.dep x
    rw [List.map_cons]
    simp only [PyData.depthAll] at h1 ⊢
    omega
theorem ElD.eqvAll : ∀ xs ys : List α, PyData.eqvAll (xs.map A.d) (ys.map A.d) = decide (xs = ys)
  | [], [] => by simp [PyData.eqvAll]
  | [], y :: ys => by simp [PyData.eqvAll]
  | x :: xs, [] => by simp [PyData.eqvAll]
  | x :: xs, y :: ys => by
    rw [List.map_cons, List.map_cons]
    simp only [PyData.eqvAll, D.eqv x y, ElD.eqvAll xs ys]
    by_cases e : x = y <;> by_cases e2 : xs = ys <;> simp [e, e2]
end
instance [DecidableEq α] {A : El K α} [D : ElD A] : ElD (kT A) := ⟨D.n + 1, fun {H v x} h => by show (PyData.tuple (x.map A.d)).canLay0 = true; rw [PyData.canLay0]; obtain ⟨t, us, _, _, h⟩ := h; exact D.layAll h, fun x => by
  have := D.depAll x
  show (PyData.tuple (x.map A.d)).depth ≤ _
  simp only [PyData.depth]; omega, fun x y => by
  show PyData.eqv (.tuple (x.map A.d)) (.tuple (y.map A.d)) = _
  rw [PyData.eqv]; exact D.eqvAll x y⟩
instance {A : El K α} : ElN (kT A) := ⟨fun x => by show PyData.eqv .none (.tuple (x.map A.d)) = false ∧ PyData.eqv (.tuple (x.map A.d)) .none = false; constructor <;> simp [PyData.eqv], fun H v x h z => by obtain ⟨t, us, e, _⟩ := h; rw [e] at z; cases z⟩
/-! ### what is compared: by content as it stands -/
structure Ct (K : PySem.W.Frag) (α : Type) where
  P : Hp → V → α → Prop
  d : α → PyData
  dp : ∀ {H : Hp} {v : V} {x : α}, P H v x → Dp K H v (d x)
structure Cts (K : PySem.W.Frag) (α : Type) where
  P : Hp → List V → α → Prop
  d : α → List PyData
  dp : ∀ {H : Hp} {vs : List V} {x : α}, P H vs x → DpAll K H vs (d x)
def ctE (E : El K α) : Ct K α := ⟨E.P, E.d, E.dp⟩
def ctL (C : Ct K α) : Ct K (List α) := ⟨fun H v xs => ∃ l vs, v = .ref l ∧ SqL K H l vs ∧ All2 (C.P H) vs xs, fun xs => .list (xs.map C.d), fun ⟨l, vs, e, h, a⟩ => by subst e; exact .lst h (dpAll_of (a.imp fun _ _ z => C.dp z))⟩
def ctN : Cts K Unit := ⟨fun _ vs _ => vs = [], fun _ => [], fun h => by subst h; exact .nil⟩
def ctC1 (A : Ct K α) : Cts K α := ⟨fun H vs x => ∃ v, vs = [v] ∧ A.P H v x, fun x => [A.d x], fun ⟨v, e, h⟩ => by subst e; exact .cons (A.dp h) .nil⟩
def ctC (A : Ct K α) (B : Cts K β) : Cts K (α × β) := ⟨fun H vs x => ∃ v us, vs = v :: us ∧ A.P H v x.1 ∧ B.P H us x.2, fun x => A.d x.1 :: B.d x.2, fun ⟨v, us, e, h, h2⟩ => by subst e; exact .cons (A.dp h) (B.dp h2)⟩
def ctT (B : Cts K α) : Ct K α := ⟨fun H v x => ∃ t us, v = .ref t ∧ SqT K H t us ∧ B.P H us x, fun x => .tuple (B.d x), fun ⟨t, us, e, h, h2⟩ => by subst e; exact .tup h (B.dp h2)⟩
class CtD [DecidableEq α] (E : Ct K α) where
  n : Nat
  lay : ∀ {H v x}, E.P H v x → (E.d x).canLay0 = true
  dep : ∀ x, (E.d x).depth ≤ n
  eqv : ∀ x y, PyData.eqv (E.d x) (E.d y) = decide (x = y)
class CtsD [DecidableEq α] (E : Cts K α) where
  n : Nat
  lay : ∀ {H v x}, E.P H v x → PyData.canLayAll0 (E.d x) = true
  dep : ∀ x, PyData.depthAll (E.d x) ≤ n
  eqv : ∀ x y, PyData.eqvAll (E.d x) (E.d y) = decide (x = y)
instance [DecidableEq α] {E : El K α} [D : ElD E] : CtD (ctE E) := ⟨D.n, D.lay, D.dep, D.eqv⟩
section
variable [DecidableEq α] {A : Ct K α} [D : CtD A]
theorem CtD.layAll {H : Hp} {vs : List V} {xs : List α} (h : All2 (A.P H) vs xs) : PyData.canLayAll0 (xs.map A.d) = true := by
  induction h with
  | nil => rfl
  | cons h _ ih =>
    rw [List.map_cons]
    simp only [PyData.canLayAll0, D.lay h, ih, Bool.and_self]
theorem CtD.depAll (xs : List α) : PyData.depthAll (xs.map A.d) ≤ D.n := by
  induction xs with
  | nil => simp [PyData.depthAll]
  | cons x xs h1 =>
    have h2 := D.dep x
    rw [List.map_cons]
    simp only [PyData.depthAll] at h1 ⊢
    omega
theorem CtD.eqvAll : ∀ xs ys : List α, PyData.eqvAll (xs.map A.d) (ys.map A.d) = decide (xs = ys)
  | [], [] => by simp [PyData.eqvAll]
  | [], y :: ys => by simp [PyData.eqvAll]
  | x :: xs, [] => by simp [PyData.eqvAll]
  | x :: xs, y :: ys => by
    rw [List.map_cons, List.map_cons]
    simp only [PyData.eqvAll, D.eqv x y, CtD.eqvAll xs ys]
    by_cases e : x = y <;> by_cases e2 : xs = ys <;> simp [e, e2]
end
instance [DecidableEq α] {A : Ct K α} [D : CtD A] : CtD (ctL A) := ⟨D.n + 1, fun {H v x} h => by show (PyData.list (x.map A.d)).canLay0 = true; rw [PyData.canLay0]; obtain ⟨t, us, _, _, h⟩ := h; exact D.layAll h, fun x => by
  have := D.depAll x
  show (PyData.list (x.map A.d)).depth ≤ _
  simp only [PyData.depth]; omega, fun x y => by
  show PyData.eqv (.list (x.map A.d)) (.list (y.map A.d)) = _
  rw [PyData.eqv]; exact D.eqvAll x y⟩
instance : CtsD (ctN (K := K)) := ⟨0, fun _ => rfl, fun _ => by show PyData.depthAll [] ≤ 0; simp [PyData.depthAll], fun x y => by show PyData.eqvAll [] [] = _; simp [PyData.eqvAll]⟩
instance [DecidableEq α] {A : Ct K α} [D : CtD A] : CtsD (ctC1 A) := ⟨D.n, fun {H vs x} h => by show PyData.canLayAll0 [A.d x] = true; obtain ⟨v, _, h⟩ := h; simp [PyData.canLayAll0, D.lay h], fun x => by
  have := D.dep x
  show PyData.depthAll [A.d x] ≤ _
  simp [PyData.depthAll]; omega, fun x y => by show PyData.eqvAll [A.d x] [A.d y] = _; simp [PyData.eqvAll, D.eqv]⟩
instance [DecidableEq α] [DecidableEq β] {A : Ct K α} {B : Cts K β} [D : CtD A] [F : CtsD B] : CtsD (ctC A B) := ⟨max D.n F.n, fun {H vs x} h => by show PyData.canLayAll0 (A.d x.1 :: B.d x.2) = true; obtain ⟨v, us, _, h, h2⟩ := h; simp [PyData.canLayAll0, D.lay h, F.lay h2], fun x => by
  have h1 := D.dep x.1
  have h2 := F.dep x.2
  show PyData.depthAll (A.d x.1 :: B.d x.2) ≤ _
  simp only [PyData.depthAll] at h2 ⊢; omega, fun x y => by
  show PyData.eqvAll (A.d x.1 :: B.d x.2) (A.d y.1 :: B.d y.2) = _
  obtain ⟨a, b⟩ := x
  obtain ⟨a', b'⟩ := y
  simp only [PyData.eqvAll, D.eqv, F.eqv, Prod.mk.injEq]
  by_cases h : a = a' <;> by_cases h2 : b = b' <;> simp [h, h2]⟩
instance [DecidableEq α] {B : Cts K α} [F : CtsD B] : CtD (ctT B) := ⟨F.n + 1, fun {H v x} h => by show (PyData.tuple (B.d x)).canLay0 = true; rw [PyData.canLay0]; obtain ⟨t, us, _, _, h⟩ := h; exact F.lay h, fun x => by
  have := F.dep x
  show (PyData.tuple (B.d x)).depth ≤ _
  simp only [PyData.depth]; omega, fun x y => by
  show PyData.eqv (.tuple (B.d x)) (.tuple (B.d y)) = _
  rw [PyData.eqv]; exact F.eqv x y⟩
def rEqC [DecidableEq α] (C : Ct K α) : R2 := fun x y H Q => ∃ a b, C.P H x a ∧ C.P H y b ∧ Q (.bl (decide (a = b))) H
def rNeC [DecidableEq α] (C : Ct K α) : R2 := fun x y H Q => ∃ a b, C.P H x a ∧ C.P H y b ∧ Q (.bl (!decide (a = b))) H
theorem op_eqC {X : Cx} [DecidableEq α] (C : Ct K α) [D : CtD C] (hu : X.A.units + 64 < cLine) (hn : D.n ≤ 64 := by exact Nat.le_of_ble_eq_true rfl) (hK : X.K = K := by rfl) : OpR X (compareOp .Eq) (rEqC C) := fun pins s σ H x y v u Q I rx ry h => by
  subst hK
  obtain ⟨a, b, h1, h2, q⟩ := h
  exact op_eqD hu pins s σ H x y v u Q I rx ry ⟨C.d a, C.d b, C.dp h1, C.dp h2, shaped_of (D.lay h1) (D.dep a) hn, shaped_of (D.lay h2) (D.dep b) hn, by rw [D.eqv]; exact q⟩
theorem op_neC {X : Cx} [DecidableEq α] (C : Ct K α) [D : CtD C] (hu : X.A.units + 64 < cLine) (hn : D.n ≤ 64 := by exact Nat.le_of_ble_eq_true rfl) (hK : X.K = K := by rfl) : OpR X (compareOp .NotEq) (rNeC C) := fun pins s σ H x y v u Q I rx ry h => by
  subst hK
  obtain ⟨a, b, h1, h2, q⟩ := h
  exact op_neD hu pins s σ H x y v u Q I rx ry ⟨C.d a, C.d b, C.dp h1, C.dp h2, shaped_of (D.lay h1) (D.dep a) hn, shaped_of (D.lay h2) (D.dep b) hn, by rw [D.eqv]; exact q⟩
end
/-! ### cuts within a statement -/
def tCutT (c : TT) : TT := fun σ H Q => ∃ M : Bool → Hp → Prop, c σ H M ∧ ∀ b H', M b H' → Q b H'
theorem pt_cut {X : Cx} {e : Expr} {c : TT} (h : PT X e c) : PT X e (tCutT c) := ⟨fun pins s σ H Q I ⟨M, hm, hq⟩ => thn (h.run pins s σ H M I hm) fun b s' ⟨H', I', q⟩ => ⟨H', I', hq b H' q⟩⟩
def tCutE (t : TE) : TE := fun σ H Q => ∃ M : VK, t σ H M ∧ ∀ v H', M v H' → Q v H'
theorem pe_cut {X : Cx} {e : Expr} {t : TE} (h : PE X e t) : PE X e (tCutE t) := ⟨fun pins s σ H Q I ⟨M, hm, hq⟩ => thn (h.run pins s σ H M I hm) fun b s' ⟨v, H', I', r, q⟩ => ⟨v, H', I', r, hq v H' q⟩⟩
end Toy
namespace Toy
open PySem L2
def obg {α : Type} (o : Option α) (k : α → Prop) : Prop := ∃ x, o = some x ∧ k x
theorem obg_some {α : Type} {x : α} {k : α → Prop} : obg (some x) k = k x := by simp [obg]
theorem obg_none {α : Type} {k : α → Prop} : obg none k = False := by simp [obg]
def upds : St → List (Option (Option V)) → St
  | s :: σ, none :: r => s :: upds σ r
  | _ :: σ, some v :: r => v :: upds σ r
  | σ, [] => σ
  | [], _ => []
abbrev eqb {α : Type} [DecidableEq α] (x y : α) : Bool := decide (x = y)
section
variable {K : PySem.W.Frag} {α β γ M B : Type} {L R R' R3 : List HA} {σ τ : St} {Q : VK} {D : Ends} {nx bk ct : St → Hp → Prop} {rt : VK} {v x y : V} {a b p l : Addr} {vs us : List V} {φ ψ : Hp → Prop} {H : Hp} {E : El K α} {F : El K β} {X Y : Prop}
/-! ### values made plain -/
def vEls (Es : Els K α) (us : List V) (x : α) : HA := ⟨fun H S => Es.P H us x ∧ ∀ b, ¬ S b, fun ⟨h, s⟩ k => ⟨Es.st h k.i, s⟩, fun ⟨_, s⟩ q => (s _ q).elim⟩
theorem Holds.els {Es : Els K α} {x : α} (h : Holds L H) (e : Es.P H us x) : Holds (vEls Es us x :: L) H := by
  obtain ⟨S, h⟩ := h
  exact ⟨S, fun _ => False, S, ⟨e, fun b q => q⟩, h, fun b e q => e, fun b => ⟨.inr, fun z => z.elim (fun z => z.elim) id⟩⟩
theorem Holds.hd_els {Es : Els K α} {x : α} (h : Holds (vEls Es us x :: L) H) : Es.P H us x ∧ Holds L H := by
  obtain ⟨S, S1, S2, h1, h2, _⟩ := h
  exact ⟨h1.1, S2, h2⟩
theorem Holds.hd_vl {x : α} (h : Holds (Toy.vl E v x :: L) H) : E.P H v x ∧ Holds L H := by
  obtain ⟨S, S1, S2, h1, h2, _⟩ := h
  exact ⟨h1.1, S2, h2⟩
theorem Ent.vB {n : Bool} {φ : V → Hp → Prop} (q : Ent L (φ (.bl n))) (v : V) : Ent (vl (K := K) kB v n :: L) (φ v) := fun H h => by
  obtain ⟨e, h'⟩ := h.hd_vl
  obtain rfl : v = .bl n := e
  exact q H h'
theorem Ent.vN {n : Unit} {φ : V → Hp → Prop} (q : Ent L (φ .non)) (v : V) : Ent (vl (K := K) kN v n :: L) (φ v) := fun H h => by
  obtain ⟨e, h'⟩ := h.hd_vl
  obtain rfl : v = .non := e
  exact q H h'
theorem Ent.vS {n : Str} {φ : V → Hp → Prop} (q : Ent L (φ (.str n))) (v : V) : Ent (vl (K := K) kS v n :: L) (φ v) := fun H h => by
  obtain ⟨e, h'⟩ := h.hd_vl
  obtain rfl : v = .str n := e
  exact q H h'
theorem Ent.vSt {n : Str} {φ : V → Hp → Prop} (q : Ent (vl (K := K) kSt (.str n) n :: L) (φ (.str n))) (v : V) : Ent (vl (K := K) kSt v n :: L) (φ v) := fun H h => by
  obtain ⟨e, _⟩ := h.hd_vl
  obtain rfl : v = .str n := e.1
  exact q H h
theorem Ent.tupO {Es : Els K α} {x : α} (t : Take (vl (kTup Es) v x) L R) (q : ∀ a us, v = .ref a → Ent (vEls Es us x :: tu a us :: L) φ) : Ent L φ := fun H h => by
  obtain ⟨a, us, e, h1, h2⟩ := t.vl h
  exact q a us e H ((h.addI h1 rfl).els h2)
theorem Ent.elsN {x : Unit} (q : us = [] → Ent L φ) : Ent (vEls (K := K) kNil us x :: L) φ := fun H h => by
  obtain ⟨e, h⟩ := h.hd_els
  exact q e H h
theorem Ent.elsC {A : El K α} {B : Els K β} {x : α × β} (q : ∀ u us', us = u :: us' → Ent (vEls B us' x.2 :: vl A u x.1 :: L) φ) : Ent (vEls (kC A B) us x :: L) φ := fun H h => by
  obtain ⟨⟨u, us', e, h1, h2⟩, h⟩ := h.hd_els
  exact q u us' e H ((h.vl h1).els h2)
theorem Ent.elsCI {B : Els K β} {x : Int × β} (q : ∀ us', us = .int x.1 :: us' → Ent (vEls B us' x.2 :: L) φ) : Ent (vEls (kC kI B) us x :: L) φ := fun H h => by
  obtain ⟨⟨u, us', e, h1, h2⟩, h⟩ := h.hd_els
  obtain rfl : u = .int x.1 := h1
  exact q us' e H (h.els h2)
theorem Ent.elsCB {B : Els K β} {x : Bool × β} (q : ∀ us', us = .bl x.1 :: us' → Ent (vEls B us' x.2 :: L) φ) : Ent (vEls (kC kB B) us x :: L) φ := fun H h => by
  obtain ⟨⟨u, us', e, h1, h2⟩, h⟩ := h.hd_els
  obtain rfl : u = .bl x.1 := h1
  exact q us' e H (h.els h2)
theorem Ent.elsCS {B : Els K β} {x : Str × β} (q : ∀ us', us = .str x.1 :: us' → Ent (vEls B us' x.2 :: vl (K := K) kSt (.str x.1) x.1 :: L) φ) : Ent (vEls (kC kSt B) us x :: L) φ := fun H h => by
  obtain ⟨⟨u, us', e, h1, h2⟩, h⟩ := h.hd_els
  obtain rfl : u = .str x.1 := h1.1
  exact q us' e H ((h.vl h1).els h2)
theorem Ent.els1 {A : El K α} {x : α} (q : ∀ u, us = [u] → Ent (vl A u x :: L) φ) : Ent (vEls (kC1 A) us x :: L) φ := fun H h => by
  obtain ⟨⟨u, e, h1⟩, h⟩ := h.hd_els
  exact q u e H (h.vl h1)
theorem Ent.els1I {x : Int} (q : us = [.int x] → Ent L φ) : Ent (vEls (K := K) (kC1 kI) us x :: L) φ := fun H h => by
  obtain ⟨⟨u, e, h1⟩, h⟩ := h.hd_els
  obtain rfl : u = .int x := h1
  exact q e H h
theorem Ent.els1B {x : Bool} (q : us = [.bl x] → Ent L φ) : Ent (vEls (K := K) (kC1 kB) us x :: L) φ := fun H h => by
  obtain ⟨⟨u, e, h1⟩, h⟩ := h.hd_els
  obtain rfl : u = .bl x := h1
  exact q e H h
theorem Ent.els1S {x : Str} (q : us = [.str x] → Ent (vl (K := K) kSt (.str x) x :: L) φ) : Ent (vEls (K := K) (kC1 kSt) us x :: L) φ := fun H h => by
  obtain ⟨⟨u, e, h1⟩, h⟩ := h.hd_els
  obtain rfl : u = .str x := h1.1
  exact q e H (h.vl h1)
/-! what is said of values (el) -/
abbrev Is (E : El K α) (L : List HA) (v : V) (x : α) : Prop := ∀ H, Holds L H → E.P H v x
abbrev IsE (E : Els K α) (L : List HA) (vs : List V) (x : α) : Prop := ∀ H, Holds L H → E.P H vs x
abbrev IsC (E : Ct K α) (L : List HA) (v : V) (x : α) : Prop := ∀ H, Holds L H → E.P H v x
abbrev IsCs (E : Cts K α) (L : List HA) (vs : List V) (x : α) : Prop := ∀ H, Holds L H → E.P H vs x
theorem is_I {n : Int} : Is (kI (K := K)) L (.int n) n := fun _ _ => rfl
theorem is_B {n : Bool} : Is (kB (K := K)) L (.bl n) n := fun _ _ => rfl
theorem is_S {n : Str} : Is (kS (K := K)) L (.str n) n := fun _ _ => rfl
theorem is_St {n : Str} (h : PyData.strOk n = true) : Is (kSt (K := K)) L (.str n) n := fun _ _ => ⟨rfl, h⟩
theorem is_N : Is (kN (K := K)) L .non () := fun _ _ => rfl
theorem is_no : Is (kO E) L .non none := fun _ _ => rfl
theorem is_so {x : α} (h : Is E L v x) : Is (kO E) L v (some x) := h
theorem is_v {x : α} (t : Take (vl E v x) L R) : Is E L v x := fun H h => t.vl h
theorem is_tup {Es : Els K α} {x : α} (t : Take (tu a us) L R) (h : IsE Es L us x) : Is (kTup Es) L (.ref a) x := fun H k => ⟨a, us, rfl, t.im k, h H k⟩
theorem is_nil : IsE (kNil (K := K)) L [] () := fun _ _ => rfl
theorem is_c {Es : Els K β} {x : α} {y : β} (h : Is E L v x) (h2 : IsE Es L us y) : IsE (kC E Es) L (v :: us) (x, y) := fun H k => ⟨v, us, rfl, h H k, h2 H k⟩
theorem is_c1 {x : α} (h : Is E L v x) : IsE (kC1 E) L [v] x := fun H k => ⟨v, rfl, h H k⟩
theorem is_ul {x : α} (h : Is E L v x) : Is (kU E F) L v (.inl x) := h
theorem is_ur {y : β} (h : Is F L v y) : Is (kU E F) L v (.inr y) := h
theorem isC_e {x : α} (h : Is E L v x) : IsC (ctE E) L v x := h
theorem isC_ls {xs : List α} (t : Take (ls E l xs) L R) : IsC (ctL (ctE E)) L (.ref l) xs := fun H h => by
  obtain ⟨vs, h1, h2⟩ := t.ls h
  exact ⟨l, vs, rfl, SqL.of h1, h2⟩
theorem isC_t {Es : Cts K α} {x : α} (t : Take (tu a us) L R) (h : IsCs Es L us x) : IsC (ctT Es) L (.ref a) x := fun H k => ⟨a, us, rfl, SqT.of (t.im k), h H k⟩
theorem isC_l {C : Ct K α} {xs : List α} (t : Take (pt l (.lst us)) L R) (h : ∀ H, Holds L H → All2 (C.P H) us xs) : IsC (ctL C) L (.ref l) xs := fun H k => ⟨l, us, rfl, SqL.of (t.pt k), h H k⟩
theorem isC_n : IsCs (ctN (K := K)) L [] () := fun _ _ => rfl
theorem isC_c {C : Ct K α} {Es : Cts K β} {x : α} {y : β} (h : IsC C L v x) (h2 : IsCs Es L us y) : IsCs (ctC C Es) L (v :: us) (x, y) := fun H k => ⟨v, us, rfl, h H k, h2 H k⟩
theorem isC_c1 {C : Ct K α} {x : α} (h : IsC C L v x) : IsCs (ctC1 C) L [v] x := fun H k => ⟨v, rfl, h H k⟩
theorem isA_nil {r : Hp → V → α → Prop} : ∀ H, Holds L H → All2 (r H) [] [] := fun _ _ => .nil
theorem isA_c {r : Hp → V → α → Prop} {x : α} {xs : List α} (h : ∀ H, Holds L H → r H v x) (h2 : ∀ H, Holds L H → All2 (r H) us xs) : ∀ H, Holds L H → All2 (r H) (v :: us) (x :: xs) := fun H k => .cons (h H k) (h2 H k)
/-- a written list is a list of the kind E -/
theorem take_lsD {xs : List α} (t : Take (pt l (.lst us)) L R) (h : ∀ H, Holds R H → All2 (E.P H) us xs) : Take (ls E l xs) L R := Sub.trans t (Sub.ls_i h)
theorem Sub.is {M' : List HA} {x : α} (h : Is E L v x) (s : Sub L M') : Sub L (vl E v x :: M') := Sub.vl_i h s
/-! ### steps that ask the mirror -/
theorem c_get {o : Option Int} {k : Int → Prop} (hm : obg o k) (t : Take (vl (K := K) (kO kI) v o) L R) (q : ∀ w, k w → v = .int w → Ent L φ) : Ent L φ := fun H h => by
  obtain ⟨w, rfl, hk⟩ := hm
  exact q w hk (t.vl h) H h
theorem c_getV {o : Option α} {k : α → Prop} (hm : obg o k) (t : Take (vl (kO E) v o) L R) (q : ∀ w, k w → Ent (vl E v w :: L) φ) : Ent L φ := fun H h => by
  obtain ⟨w, rfl, hk⟩ := hm
  exact q w hk H (h.vl (t.vl h))
theorem c_draw {n : Int} {k : Int → Prop} {E : XK} (hm : drw n k) (t : Take (PotA p) L R) (q : ∀ d, k d → Ent (PotA p :: R) (Q (.int d))) : Ent L fun H => aDraw [.ref p, .int n] H Q E := e_draw t hm.1 hm.2.1 fun d h0 h1 => q d (hm.2.2 d h0 h1)
theorem c_pick {xs : List α} {k : α → Prop} {X : XK} {s : Addr} (hm : pck xs k) (t : Take (PotA p) L R) (hl : Take (ls E s xs) R R') (q : ∀ w, k w → ∀ v, Ent (vl E v w :: PotA p :: R) (Q v)) : Ent L fun H => aPick K [.ref p, .ref s] H Q X := e_pickLs t hl hm.1.1 hm.1.2 fun d x v e => q x (hm.2 x (List.mem_of_getElem? e)) v
theorem c_ix {xs : List α} {i : Int} {k : α → Prop} (hm : obx (atI xs i) k) (t : Take (ls E l xs) L R) (q : ∀ w, k w → ∀ v, Ent (vl E v w :: L) (Q v)) : Ent L fun H => rIxL K (.ref l) (.int i) H Q := by
  obtain ⟨w, e, hk⟩ := hm
  exact e_ixLs t e (q w hk)
theorem c_I {C : Int → Int → Prop} {g : Int → Int → V} {i j : Int} {k : Prop} (hm : grd (C i j) k) (q : k → Ent L fun H => Q (g i j) H) : Ent L fun H => rI C g (.int i) (.int j) H Q := e_I hm.1 (q hm.2)
theorem c_app {xs : List α} {y : α} {k : Prop} (hm : grd (xs.length ≤ 100000) k) (t : Take (ls E l xs) L R) (hy : Is E L v y) (q : k → Ent (ls E l (xs ++ [y]) :: R) (Q .non)) : Ent L fun H => rAppend (.ref l) [v] H Q := e_appLs t hy hm.1 (q hm.2)
theorem c_set {xs : List α} {y : α} {i : Int} {k : Nat → Prop} (hm : obx (ixN xs.length i) k) (t : Take (ls E l xs) L R) (hy : Is E L v y) (q : ∀ j, k j → Ent (ls E l (xs.set j y) :: R) φ) : Ent L fun H => rSetL (.ref l) (.int i) v H φ := by
  obtain ⟨j, e, hk⟩ := hm
  exact e_setLs t e hy (q j hk)
theorem c_pop {xs : List α} {k : α → Prop} (hm : obx xs[xs.length - 1]? k) (t : Take (ls E l xs) L R) (q : ∀ w, k w → ∀ v, Ent (vl E v w :: ls E l xs.dropLast :: R) (Q v)) : Ent L fun H => rPop (.ref l) [] H Q := by
  obtain ⟨w, e, hk⟩ := hm
  exact e_popLs t e (q w hk)
def popI (xs : List α) (i : Int) : Option (Nat × α) := if -1000000 ≤ i ∧ i ≤ 1000000 then (seqIndex? i xs.length).bind fun j => xs[j]?.map fun y => (j, y) else none
theorem c_popAt {xs : List α} {i : Int} {k : Nat × α → Prop} (hm : obx (popI xs i) k) (t : Take (ls E l xs) L R) (q : ∀ w, k w → ∀ v, Ent (vl E v w.2 :: ls E l (xs.eraseIdx w.1) :: R) (Q v)) : Ent L fun H => rPopAt (.ref l) [.int i] H Q := by
  obtain ⟨⟨j, w⟩, e, hk⟩ := hm
  unfold popI at e
  by_cases c : -1000000 ≤ i ∧ i ≤ 1000000
  · rw [if_pos c] at e
    cases h1 : seqIndex? i xs.length with
    | none => rw [h1] at e; simp at e
    | some j' =>
      rw [h1] at e
      cases h2 : xs[j']? with
      | none => simp [h2] at e
      | some y' =>
        simp [h2] at e
        obtain ⟨e1, e2⟩ := e
        subst e1 e2
        exact e_popAtLs t c h1 h2 (q _ hk)
  · rw [if_neg c] at e; cases e
theorem c_cat {xs ys : List α} {k : Prop} (hm : grd (xs.length + ys.length ≤ 100000) k) (t : Take (ls E l xs) L R) (t2 : Take (ls E b ys) L R') (q : k → ∀ p, Ent (ls E p (xs ++ ys) :: L) (Q (.ref p))) : Ent L fun H => rCat (.ref l) (.ref b) H Q := e_catLs t t2 hm.1 (q hm.2)
/-! tests -/
theorem c_if {c : Prop} {i : Decidable c} [Decidable c] (hm : @ite _ c i X Y) (h1 : X → Ent L φ) (h2 : Y → Ent L ψ) : Ent L fun H => if decide c = true then φ H else ψ H := eS (fun z => h1 (by rwa [if_pos z] at hm)) fun z => h2 (by rwa [if_neg z] at hm)
theorem c_ifN {c : Prop} {i : Decidable c} [Decidable c] (hm : @ite _ c i X Y) (h1 : X → Ent L φ) (h2 : Y → Ent L ψ) : Ent L fun H => if (!decide c) = true then ψ H else φ H := eNS (fun z => h1 (by rwa [if_pos z] at hm)) fun z => h2 (by rwa [if_neg z] at hm)
theorem c_ifB {c : Bool} {i : Decidable (c = true)} (hm : @ite _ (c = true) i X Y) (h1 : X → Ent L φ) (h2 : Y → Ent L ψ) : Ent L fun H => @ite _ (c = true) (instDecidableEqBool c true) (φ H) (ψ H) := eB (fun z => h1 (by rwa [if_pos z] at hm)) fun z => h2 (by rwa [if_neg (by simp [z])] at hm)
theorem c_ifNB {c : Bool} {i : Decidable (c = true)} (hm : @ite _ (c = true) i X Y) (h1 : X → Ent L φ) (h2 : Y → Ent L ψ) : Ent L fun H => @ite _ ((!c) = true) (instDecidableEqBool (!c) true) (ψ H) (φ H) := eB (fun z => h2 (by rwa [if_neg (by simpa using z)] at hm)) fun z => h1 (by rwa [if_pos (by simpa using z)] at hm)
theorem e_isO {o : Option α} [ElN E] (t : Take (vl (kO E) v o) L R) (q : Ent L (Q (.bl o.isNone))) : Ent L fun H => V.non = .non ∧ Q (.bl (decide (v = .non))) H := fun H h => ⟨rfl, by
  have e : decide (v = V.non) = o.isNone := by
    have z := t.vl h
    cases o with
    | none => obtain rfl : v = .non := z; simp
    | some w => simpa using ElN.nv (E := E) H v w z
  rw [e]
  exact q H h⟩
theorem e_isOF (hv : v ≠ .non) (q : Ent L (Q (.bl false))) : Ent L fun H => V.non = .non ∧ Q (.bl (decide (v = .non))) H := fun H h => ⟨rfl, by rw [decide_eq_false hv]; exact q H h⟩
theorem e_isOT (q : Ent L (Q (.bl true))) : Ent L fun H => V.non = .non ∧ Q (.bl (decide (V.non = .non))) H := fun H h => ⟨rfl, by rw [decide_eq_true rfl]; exact q H h⟩
theorem e_noO {o : Option α} [ElN E] (t : Take (vl (kO E) v o) L R) (q : Ent L (Q (.bl (!o.isNone)))) : Ent L fun H => V.non = .non ∧ Q (.bl (!decide (v = .non))) H := fun H h => ⟨rfl, by
  have e : decide (v = V.non) = o.isNone := by
    have z := t.vl h
    cases o with
    | none => obtain rfl : v = .non := z; simp
    | some w => simpa using ElN.nv (E := E) H v w z
  rw [e]
  exact q H h⟩
theorem e_noOF (hv : v ≠ .non) (q : Ent L (Q (.bl true))) : Ent L fun H => V.non = .non ∧ Q (.bl (!decide (v = .non))) H := fun H h => ⟨rfl, by rw [decide_eq_false hv]; exact q H h⟩
theorem e_noOT (q : Ent L (Q (.bl false))) : Ent L fun H => V.non = .non ∧ Q (.bl (!decide (V.non = .non))) H := fun H h => ⟨rfl, by rw [decide_eq_true rfl]; exact q H h⟩
theorem e_eqC [DecidableEq α] {C : Ct K α} {i j : α} (h1 : IsC C L x i) (h2 : IsC C L y j) (q : Ent L (Q (.bl (decide (i = j))))) : Ent L fun H => rEqC C x y H Q := fun H h => ⟨i, j, h1 H h, h2 H h, q H h⟩
theorem e_neC [DecidableEq α] {C : Ct K α} {i j : α} (h1 : IsC C L x i) (h2 : IsC C L y j) (q : Ent L (Q (.bl (!decide (i = j))))) : Ent L fun H => rNeC C x y H Q := fun H h => ⟨i, j, h1 H h, h2 H h, q H h⟩
theorem e_inLs {xs : List Int} {i : Int} (t : Take (ls (K := K) kI l xs) L R) (q : Ent L (Q (.bl (decide (i ∈ xs))))) : Ent L fun H => rIn K false (.int i) (.ref l) H Q := fun H h => by
  obtain ⟨vs, h1, h2⟩ := t.ls h
  obtain rfl := all2_I h2
  exact ⟨l, _, rfl, .inl (SqL.of h1), rfl, flat_ints _, by rw [inV_int]; exact q H h⟩
theorem e_niLs {xs : List Int} {i : Int} (t : Take (ls (K := K) kI l xs) L R) (q : Ent L (Q (.bl (!decide (i ∈ xs))))) : Ent L fun H => rIn K true (.int i) (.ref l) H Q := fun H h => by
  obtain ⟨vs, h1, h2⟩ := t.ls h
  obtain rfl := all2_I h2
  exact ⟨l, _, rfl, .inl (SqL.of h1), rfl, flat_ints _, by rw [inV_int]; exact q H h⟩
/-! ### ends of turns, of joined ways -/
theorem c_end {nxt : M → Prop} {sg : M → B → St} {Pv : M → B → List HA} {m : M} (hm : nxt m) (b : B) (h : σ = sg m b) (s : Sub L (Pv m b)) : Ent L fun H => ∃ m b, nxt m ∧ σ = sg m b ∧ Holds (Pv m b) H := fun H z => ⟨m, b, hm, h, s.to z⟩
theorem c_brk {k : M → Prop} {sg : M → B → St} {Pv : M → B → List HA} {m : M} (hb : ∀ m b, k m → Ent (Pv m b) (nx (sg m b))) (hm : k m) (b : B) (h : σ = sg m b) (s : Sub L (Pv m b)) : Ent L (nx σ) := by
  subst h
  exact (hb m b hm).sub s
/-- ways joined behind a statement -/
theorem c_cut {B0 : Type} {k : M → Prop} {f : (M → Prop) → Prop} {t u : TS} (hm : jn k f) (u0 : B0 → List (Option (Option V))) (P0 : B0 → List HA) (up : M → B → List (Option (Option V))) (Pm : M → B → List HA) (b0 : B0) (h0 : σ = upds σ (u0 b0)) (s0 : Sub L (P0 b0 ++ R))
    (q : ∀ jp : M → Prop, f jp → Ent (P0 b0 ++ R) fun H => t ⟨fun σ' H' => ∃ m b, jp m ∧ σ' = upds σ (up m b) ∧ Holds (Pm m b ++ R) H', rt, bk, ct⟩ σ H)
    (hd : ∀ m b, k m → Ent (Pm m b ++ R) fun H => u ⟨nx, rt, bk, ct⟩ (upds σ (up m b)) H) : Ent L fun H => Evl.tCut t u ⟨nx, rt, bk, ct⟩ σ H := fun H h =>
  ⟨_, q k hm H (s0.to h), fun σ' H' ⟨m, b, hk, e, z⟩ => by subst e; exact hd m b hk H' z⟩
/-- a test looked through whole, ahead of its ways -/
theorem c_cutT {k : Bool → Prop} {f : (Bool → Prop) → Prop} {c : TT} {Q : Bool → Hp → Prop} (hm : jn k f) (q : ∀ jp : Bool → Prop, f jp → Ent L fun H => c σ H fun b H' => jp b ∧ Holds L H') (hd : ∀ b, k b → Ent L (Q b)) : Ent L fun H => tCutT c σ H Q := fun H h =>
  ⟨_, q k hm H h, fun b H' ⟨hk, z⟩ => hd b hk H' z⟩
theorem c_endT {jp : Bool → Prop} {b : Bool} (hm : jp b) (s : Sub L R) : Ent L fun H => jp b ∧ Holds R H := fun H h => ⟨hm, s.to h⟩
/-- an expression of one kind looked through whole -/
theorem c_cutE {k : α → Prop} {f : (α → Prop) → Prop} {te : TE} (E : El K α) (hm : jn k f) (q : ∀ jp : α → Prop, f jp → Ent L fun H => te σ H fun v H' => ∃ x, jp x ∧ Holds (vl E v x :: L) H') (hd : ∀ x, k x → ∀ v, Ent (vl E v x :: L) (Q v)) : Ent L fun H => tCutE te σ H Q := fun H h =>
  ⟨_, q k hm H h, fun v H' ⟨x, hk, z⟩ => hd x hk v H' z⟩
theorem c_endE {jp : α → Prop} {x : α} (hm : jp x) (s : Sub L (vl E v x :: R)) : Ent L fun H => ∃ x, jp x ∧ Holds (vl E v x :: R) H := fun H h => ⟨x, hm, s.to h⟩
/-! ### loops -/
theorem c_forLs {xs : List α} {m0 : M} {bd : α → M → (M → Prop) → (M → Prop) → Prop} {k : M → Prop} {g : TG} {tb : TS} (hm : forL xs m0 bd k) (up : M → B → List (Option (Option V))) (Pm : M → B → List HA) (b0 : B) (h0 : σ = upds σ (up m0 b0)) (s0 : Sub L (Pm m0 b0 ++ R)) (t : Take (ls E l xs) R R')
    (hs : (∀ m b, k m → Ent (Pm m b ++ R) (nx (upds σ (up m b)))) → ∀ x m b (nxt : M → Prop), bd x m nxt k → ∀ v, Ent (vl E v x :: (Pm m b ++ R)) fun H => g v (upds σ (up m b)) H fun σ2 H2 => tb ⟨fun σ' H' => ∃ m b, nxt m ∧ σ' = upds σ (up m b) ∧ Holds (Pm m b ++ R) H', rt, nx, fun σ' H' => ∃ m b, nxt m ∧ σ' = upds σ (up m b) ∧ Holds (Pm m b ++ R) H'⟩ σ2 H2)
    (hd : ∀ m b, k m → Ent (Pm m b ++ R) (nx (upds σ (up m b)))) : Ent L fun H => kFL K g tb ⟨nx, rt, bk, ct⟩ σ (.ref l) H := fun H h => by
  have w := walk_ls (E := E) l xs
  have hL : ∀ m b H', Holds (Pm m b ++ R) H' → ∃ vs, H' l = some (.lst vs) ∧ All2 (E.P H') vs xs := fun m b H' z => by
    obtain ⟨S, z⟩ := z
    obtain ⟨S1, S2, _, z2, _⟩ := HL.app.mp z
    exact t.ls ⟨S2, z2⟩
  have z := for_it w (D := ⟨nx, rt, bk, ct⟩) (g := g) (tb := tb) (σ := σ) (H := H) (fun i σ' H' => ∃ m b, forL (xs.drop i) m bd k ∧ i ≤ xs.length ∧ σ' = upds σ (up m b) ∧ Holds (Pm m b ++ R) H') ⟨m0, b0, hm, Nat.zero_le _, h0, s0.to h⟩ (fun i σ' H' _ ⟨m, b, _, _, _, z⟩ => hL m b H' z) (fun i x σ' H' H'' hi ⟨m, b, hf, _, e, z⟩ ⟨e2, y, hy, hp⟩ => by
      subst e e2
      have ed : xs.drop i = y :: xs.drop (i + 1) := by
        rw [List.drop_eq_getElem_cons hi]
        congr 1
        exact Option.some.inj ((List.getElem?_eq_getElem hi).symm.trans hy)
      rw [ed, forL_cons] at hf
      have r := hs hd y m b (fun m' => forL (xs.drop (i + 1)) m' bd k ∧ i + 1 ≤ xs.length) (by
        have : (fun m' => forL (xs.drop (i + 1)) m' bd k ∧ i + 1 ≤ xs.length) = fun m' => forL (xs.drop (i + 1)) m' bd k := by
          funext m'
          exact propext ⟨fun z => z.1, fun z => ⟨z, hi⟩⟩
        rw [this]
        exact hf) x H'' (z.vl hp)
      simpa only [and_assoc] using r) (fun σ' H' ⟨m, b, hf, _, e, z⟩ => by
      subst e
      rw [List.drop_length] at hf
      exact hd m b hf H' z)
  obtain ⟨vs, h1, h2⟩ := hL m0 b0 H (s0.to h)
  exact ⟨l, rfl, ⟨vs, SqL.of h1⟩, z⟩
def rgI (lo : Int) (n : Nat) : List Int := (List.range n).map fun i : Nat => lo + i
theorem rgI_len {lo : Int} {n : Nat} : (rgI lo n).length = n := by simp [rgI]
theorem rgI_get {lo : Int} {n i : Nat} (h : i < n) : (rgI lo n)[i]? = some (lo + i) := by simp [rgI, h]
theorem mem_rgI {lo : Int} {n : Nat} {i : Int} : i ∈ rgI lo n ↔ lo ≤ i ∧ i < lo + n := by
  unfold rgI
  rw [List.mem_map]
  constructor
  · rintro ⟨j, hj, rfl⟩
    rw [List.mem_range] at hj
    omega
  · intro ⟨h1, h2⟩
    exact ⟨(i - lo).toNat, by rw [List.mem_range]; omega, by omega⟩
theorem c_forR {j : Int} {m0 : M} {bd : Int → M → (M → Prop) → (M → Prop) → Prop} {k : M → Prop} {g : TG} {tb : TS} (hm : grd (-100000000 ≤ j ∧ j < 100000000) (forL (rgI 0 j.toNat) m0 bd k)) (up : M → B → List (Option (Option V))) (Pm : M → B → List HA) (b0 : B) (h0 : σ = upds σ (up m0 b0)) (s0 : Sub L (Pm m0 b0 ++ R))
    (hs : (∀ m b, k m → Ent (Pm m b ++ R) (nx (upds σ (up m b)))) → ∀ (x : Int) m b (nxt : M → Prop), bd x m nxt k → Ent (Pm m b ++ R) fun H => g (.int x) (upds σ (up m b)) H fun σ2 H2 => tb ⟨fun σ' H' => ∃ m b, nxt m ∧ σ' = upds σ (up m b) ∧ Holds (Pm m b ++ R) H', rt, nx, fun σ' H' => ∃ m b, nxt m ∧ σ' = upds σ (up m b) ∧ Holds (Pm m b ++ R) H'⟩ σ2 H2)
    (hd : ∀ m b, k m → Ent (Pm m b ++ R) (nx (upds σ (up m b)))) : Ent L fun H => kR1 g tb ⟨nx, rt, bk, ct⟩ σ [.int j] H := fun H h => by
  refine w_range1 (fun i σ' H' => ∃ m b, forL ((rgI 0 j.toNat).drop i) m bd k ∧ i ≤ j.toNat ∧ σ' = upds σ (up m b) ∧ Holds (Pm m b ++ R) H') hm.1 ⟨m0, b0, hm.2, Nat.zero_le _, h0, s0.to h⟩ (fun i σ' H' hi ⟨m, b, hf, _, e, z⟩ => ?_) (fun σ' H' ⟨m, b, hf, _, e, z⟩ => ?_)
  · subst e
    have hi' : i < j.toNat := by omega
    have ed : (rgI 0 j.toNat).drop i = (i : Int) :: (rgI 0 j.toNat).drop (i + 1) := by
      rw [List.drop_eq_getElem_cons (by rw [rgI_len]; exact hi')]
      congr 1
      have := rgI_get (lo := 0) hi'
      rw [List.getElem?_eq_getElem (by rw [rgI_len]; exact hi')] at this
      have := Option.some.inj this
      omega
    rw [ed, forL_cons] at hf
    have r := hs hd i m b (fun m' => forL ((rgI 0 j.toNat).drop (i + 1)) m' bd k ∧ i + 1 ≤ j.toNat) (by
        have : (fun m' => forL ((rgI 0 j.toNat).drop (i + 1)) m' bd k ∧ i + 1 ≤ j.toNat) = fun m' => forL ((rgI 0 j.toNat).drop (i + 1)) m' bd k := by
          funext m'
          exact propext ⟨fun z => z.1, fun z => ⟨z, hi'⟩⟩
        rw [this]
        exact hf) H' z
    simpa only [and_assoc] using r
  · subst e
    rw [List.drop_eq_nil_of_le (by rw [rgI_len]; exact Nat.le_refl _)] at hf
    exact hd m b hf H' z
/-! ### comprehensions -/
theorem c_lcLs {xs : List α} {bd : α → (Option β → Prop) → Prop} {k : List β → Prop} {g : TG} {tt : TT} {te : TE} {vs : List Nat} (E' : El K β) (hm : grd (xs.length ≤ 100000) (lcL xs [] bd k)) (t : Take (ls E l xs) L R)
    (step : ∀ x (nxt : Option β → Prop), bd x nxt → ∀ v D ys (r : VK) (s : Hp → Prop), (∀ v' y, nxt (some y) → Ent (vl E' v' y :: ls E' D ys :: L) (r v')) → (nxt none → Ent (ls E' D ys :: L) s) → Ent (vl E v x :: ls E' D ys :: L) fun H => g v (wipe σ vs) H fun σ2 H2 => wipe σ2 vs = wipe σ vs ∧ tt σ2 H2 fun b H3 => if b = true then te σ2 H3 r else s H3)
    (q : ∀ ys, k ys → ∀ D, Ent (ls E' D ys :: L) (Q (.ref D))) : Ent L fun H => kLc K g tt te vs σ Q (.ref l) H := fun H h => by
  obtain ⟨hz, hm⟩ := hm
  obtain ⟨ws, h1, h2⟩ := t.ls h
  refine ⟨l, rfl, ⟨ws, SqL.of h1⟩, fun D nD => ?_⟩
  refine lc_it (walk_ls (E := E) l xs) (fun i H' => ∃ ys, lcL (xs.drop i) ys bd k ∧ i ≤ xs.length ∧ ys.length ≤ i ∧ Holds (ls E' D ys :: L) H') ⟨[], hm, Nat.zero_le _, Nat.le_refl _, h.ls_new nD .nil⟩ (fun i H' _ ⟨ys, _, _, _, p⟩ => t.ls (Sub.to (Sub.drop Sub.refl) p)) (fun i v H' H'' hi ⟨ys, hf, _, hy, p⟩ ⟨e, x, hx, hp⟩ => ?_) (fun H' ⟨ys, hf, _, _, p⟩ => q ys (by rw [List.drop_length] at hf; exact hf) D H' p)
  subst e
  have ed : xs.drop i = x :: xs.drop (i + 1) := by
    rw [List.drop_eq_getElem_cons hi]
    congr 1
    exact Option.some.inj ((List.getElem?_eq_getElem hi).symm.trans hx)
  rw [ed, lcL] at hf
  refine step x _ hf v D ys _ _ (fun v' y hy' H4 z => ?_) (fun hn H3 z => ?_) _ (p.vl hp)
  · obtain ⟨ac, z1, z2⟩ := Holds.ls_op (Sub.to (Sub.drop Sub.refl) z)
    have z3 : E'.P H4 v' y := Take.vl take_here z
    refine ⟨ac, z1.pt_get, ?_, ys ++ [y], hy', hi, by simp; omega, Holds.ls_upd (Sub.to (Sub.drop Sub.refl) z) (z2.app (.one z3))⟩
    rw [z2.len]
    exact Nat.lt_of_le_of_lt (by omega : ys.length ≤ 100000) (by decide : 100000 < sizeLine)
  · exact ⟨ys, by simpa using hn, hi, by omega, z⟩
/-! ### opening on demand -/
theorem c_opnIx {Es : Els K α} {x : α} {i : V} (t : Take (vl (kTup Es) v x) L R) (q : ∀ a us, v = .ref a → Ent (vEls Es us x :: tu a us :: L) fun H => rIxT K v i H Q) : Ent L fun H => rIxT K v i H Q := Ent.tupO t q
theorem c_opnG {Es : Els K α} {x : α} {n : Nat} {ts : TGs} {Q : St → Hp → Prop} (t : Take (vl (kTup Es) v x) L R) (q : ∀ a us, v = .ref a → Ent (vEls Es us x :: tu a us :: L) fun H => gTup K n ts v σ H Q) : Ent L fun H => gTup K n ts v σ H Q := Ent.tupO t q
theorem Ent.swp {A B : HA} (q : Ent (B :: A :: L) φ) : Ent (A :: B :: L) φ := q.sub Sub.swap
/-! ### more of lists -/
theorem e_appDrop {xs : List α} {y : V} {k : Prop} (hm : grd (xs.length ≤ 100000) k) (t : Take (ls E l xs) L R) (q : k → Ent R (Q .non)) : Ent L fun H => rAppend (.ref l) [y] H Q := fun H h => by
  obtain ⟨vs, h1, h2⟩ := t.ls h
  obtain ⟨ws, h3, _⟩ := (t.to h).ls_op
  exact ⟨l, vs, y, rfl, rfl, h1, by rw [h2.len]; exact Nat.lt_of_le_of_lt hm.1 (by decide), q hm.2 _ (Sub.to (Sub.drop Sub.refl) (h3.upd (u := .lst (vs ++ [y])) rfl))⟩
def srt (ns : List Int) : List Int := ns.mergeSort fun a b => decide (a ≤ b)
theorem srt_perm (ns : List Int) : (srt ns).Perm ns := List.mergeSort_perm ..
theorem srt_le (ns : List Int) : (srt ns).Pairwise (· ≤ ·) := by
  have := List.pairwise_mergeSort (le := fun a b : Int => decide (a ≤ b)) (fun a b c h1 h2 => by simp at *; omega) (fun a b => by simp; omega) ns
  exact this.imp fun h => by simpa using h
theorem perm_srt : ∀ {xs ys : List Int}, xs.Perm ys → xs.Pairwise (· ≤ ·) → ys.Pairwise (· ≤ ·) → xs = ys
  | [], ys, p, _, _ => (List.Perm.nil_eq p)
  | x :: xs, [], p, _, _ => absurd p.length_eq (by simp)
  | x :: xs, y :: ys, p, h1, h2 => by
    have e : x = y := by
      have hx : x ∈ y :: ys := p.mem_iff.mp (List.mem_cons_self ..)
      have hy : y ∈ x :: xs := p.mem_iff.mpr (List.mem_cons_self ..)
      rcases List.mem_cons.mp hx with e | hx
      · exact e
      · rcases List.mem_cons.mp hy with e | hy
        · exact e.symm
        · have a := (List.pairwise_cons.mp h2).1 x hx
          have b := (List.pairwise_cons.mp h1).1 y hy
          omega
    subst e
    rw [perm_srt (List.Perm.cons_inv p) (List.pairwise_cons.mp h1).2 (List.pairwise_cons.mp h2).2]
theorem srt_eq {ns ms : List Int} (p : ms.Perm ns) (h : ms.Pairwise (· ≤ ·)) : srt ns = ms := perm_srt ((srt_perm ns).trans p.symm) (srt_le ns) h
theorem srt_self {ns : List Int} (h : ns.Pairwise (· ≤ ·)) : srt ns = ns := srt_eq (List.Perm.refl _) h
theorem e_sort {ns : List Int} (t : Take (ls (kI (K := K)) l ns) L R) (q : ∀ p, Ent (ls (kI (K := K)) p (srt ns) :: L) (Q (.ref p))) : Ent L fun H => rSortedI K [.ref l] H Q := e_sortI t fun ns' p hp hs => by rw [← srt_eq hp hs]; exact q p
def enF {α : Type} : Int → List α → List (Int × α)
  | _, [] => []
  | i, x :: xs => (i, x) :: enF (i + 1) xs
def enI {α : Type} (xs : List α) : List (Int × α) := enF 0 xs
theorem enF_len : ∀ {j : Int} {xs : List α}, (enF j xs).length = xs.length
  | _, [] => rfl
  | j, x :: xs => by simp [enF, enF_len (xs := xs)]
theorem enI_len {xs : List α} : (enI xs).length = xs.length := enF_len
theorem enF_get : ∀ {j : Int} {xs : List α} {i : Nat} {x : α}, xs[i]? = some x → (enF j xs)[i]? = some (j + (i : Int), x)
  | j, [], i, x, h => by simp at h
  | j, y :: xs, 0, x, h => by simp at h; subst h; simp [enF]
  | j, y :: xs, i + 1, x, h => by
    have := enF_get (j := j + 1) (xs := xs) (i := i) (x := x) (by simpa using h)
    simp only [enF, List.getElem?_cons_succ, this]
    congr 2
    omega
theorem enI_get {xs : List α} {i : Nat} {x : α} (h : xs[i]? = some x) : (enI xs)[i]? = some ((i : Int), x) := by
  have := enF_get (j := 0) h
  rwa [Int.zero_add] at this
theorem enI_of {xs : List α} {i : Nat} {p : Int × α} (h : (enI xs)[i]? = some p) : p.1 = i ∧ xs[i]? = some p.2 := by
  have hi := (List.getElem?_eq_some_iff.mp h).1
  rw [enI_len] at hi
  have := enI_get (List.getElem?_eq_getElem hi)
  rw [h] at this
  obtain rfl := Option.some.inj this
  exact ⟨rfl, List.getElem?_eq_getElem hi⟩
theorem enI_map {xs : List α} : (enI xs).map (·.2) = xs := by
  unfold enI
  generalize (0 : Int) = j
  induction xs generalizing j with
  | nil => rfl
  | cons x xs ih => simp [enF, ih]
/-- [.. for i, x in enumerate(l)] -/
theorem c_lcEn {xs : List α} {bd : Int × α → (Option β → Prop) → Prop} {k : List β → Prop} {g : TG} {tt : TT} {te : TE} {vs : List Nat} (E' : El K β) (hm : grd (xs.length ≤ 100000) (lcL (enI xs) [] bd k)) (t : Take (ls E l xs) L R)
    (step : ∀ x (nxt : Option β → Prop), bd x nxt → ∀ T v D ys (r : VK) (s : Hp → Prop), (∀ v' y, nxt (some y) → Ent (vl E' v' y :: ls E' D ys :: L) (r v')) → (nxt none → Ent (ls E' D ys :: L) s) → Ent (tu T [.int x.1, v] :: vl E v x.2 :: ls E' D ys :: L) fun H => g (.ref T) (wipe σ vs) H fun σ2 H2 => wipe σ2 vs = wipe σ vs ∧ tt σ2 H2 fun b H3 => if b = true then te σ2 H3 r else s H3)
    (q : ∀ ys, k ys → ∀ D, Ent (ls E' D ys :: L) (Q (.ref D))) : Ent L fun H => kLcEn K g tt te vs σ Q [.ref l] H := fun H h => by
  obtain ⟨hz, hm⟩ := hm
  obtain ⟨ws, h1, h2⟩ := t.ls h
  refine ⟨l, ws, rfl, SqL.of h1, fun D nD => ?_⟩
  have w : Walk (Ite K l) xs.length (fun H => ∃ vs, H l = some (.lst vs) ∧ All2 (E.P H) vs xs) (fun i H v H' => ∃ T x u, v = .ref T ∧ H T = none ∧ H' = upd H T (.tup [.int i, u]) ∧ xs[i]? = some x ∧ E.P H u x) :=
    ⟨fun i H hi ⟨vs, z1, z2⟩ => (walk_enum (K := K) (a := l) (xs := vs)).goes i H (by rw [z2.len]; exact hi) (SqL.of z1), fun H ⟨vs, z1, z2⟩ => by
      have := (walk_enum (K := K) (a := l) (xs := vs)).stops H (SqL.of z1)
      rw [z2.len] at this
      exact this, fun i H x H' hi ⟨vs, z1, z2⟩ y => by
      obtain ⟨T, a, b, e1, e2, e3, e4, e5⟩ := (walk_enum (K := K) (a := l) (xs := vs)).yields i H x H' (by rw [z2.len]; exact hi) (SqL.of z1) y
      obtain rfl : V.int (i : Nat) = a := Option.some.inj e4
      obtain ⟨x', hx, hp⟩ := z2.get e5
      exact ⟨T, x', b, e1, e2, e3, hx, hp⟩⟩
  refine lc_it w (fun i H' => ∃ ys, lcL ((enI xs).drop i) ys bd k ∧ i ≤ xs.length ∧ ys.length ≤ i ∧ Holds (ls E' D ys :: L) H') ⟨[], hm, Nat.zero_le _, Nat.le_refl _, h.ls_new nD .nil⟩ (fun i H' _ ⟨ys, _, _, _, p⟩ => t.ls (Sub.to (Sub.drop Sub.refl) p)) (fun i v H' H'' hi ⟨ys, hf, _, hy, p⟩ ⟨T, x, u, e, nT, eH, hx, hp⟩ => ?_) (fun H' ⟨ys, hf, _, _, p⟩ => q ys (by rw [List.drop_eq_nil_of_le (by rw [enI_len]; exact Nat.le_refl _)] at hf; exact hf) D H' p)
  subst e eH
  have ed : (enI xs).drop i = ((i : Int), x) :: (enI xs).drop (i + 1) := by
    rw [List.drop_eq_getElem_cons (by rw [enI_len]; exact hi)]
    congr 1
    exact Option.some.inj ((List.getElem?_eq_getElem (by rw [enI_len]; exact hi)).symm.trans (enI_get hx))
  rw [ed, lcL] at hf
  have z0 : Holds (tu T [.int i, u] :: vl E u x :: ls E' D ys :: L) (upd H' T (.tup [.int i, u])) := Sub.to Sub.swap (by
    have z := (p.newI (o := .tup [.int i, u]) nT rfl).vl (E := E) (x := x) (v := u) (E.st hp (keepI_new nT))
    exact z)
  refine step ((i : Int), x) _ hf T u D ys _ _ (fun v' y hy' H4 z => ?_) (fun hn H3 z => ?_) _ z0
  · obtain ⟨ac, z1, z2⟩ := Holds.ls_op (Sub.to (Sub.drop Sub.refl) z)
    have z3 : E'.P H4 v' y := Take.vl take_here z
    refine ⟨ac, z1.pt_get, ?_, ys ++ [y], hy', hi, by simp; omega, Holds.ls_upd (Sub.to (Sub.drop Sub.refl) z) (z2.app (.one z3))⟩
    rw [z2.len]
    exact Nat.lt_of_le_of_lt (by omega : ys.length ≤ 100000) (by decide : 100000 < sizeLine)
  · exact ⟨ys, by simpa using hn, hi, by omega, z⟩
theorem take_of {A : HA} (h : Sub L (A :: R)) : Take A L R := h
def rIsN : R2 := fun x y H Q => y = .non ∧ Q (.bl (decide (x = .non))) H
def rNoN : R2 := fun x y H Q => y = .non ∧ Q (.bl (!decide (x = .non))) H
theorem op_isNR {X : Cx} : OpR X (compareOp .Is) rIsN := op_isN
theorem op_noNR {X : Cx} : OpR X (compareOp .IsNot) rNoN := op_notN
theorem c_isO {o : Option α} (t : Take (vl (kO E) v o) L R) (n : ElN E) (q : Ent L (Q (.bl o.isNone))) : Ent L fun H => rIsN v .non H Q := e_isO t q
theorem c_isF (hv : v ≠ .non) (q : Ent L (Q (.bl false))) : Ent L fun H => rIsN v .non H Q := e_isOF hv q
theorem c_isT (q : Ent L (Q (.bl true))) : Ent L fun H => rIsN .non .non H Q := e_isOT q
theorem c_noO {o : Option α} (t : Take (vl (kO E) v o) L R) (n : ElN E) (q : Ent L (Q (.bl (!o.isNone)))) : Ent L fun H => rNoN v .non H Q := e_noO t q
theorem c_noF (hv : v ≠ .non) (q : Ent L (Q (.bl true))) : Ent L fun H => rNoN v .non H Q := e_noOF hv q
theorem c_noT (q : Ent L (Q (.bl false))) : Ent L fun H => rNoN .non .non H Q := e_noOT q
theorem rt_law {b : Bool} {Q : VK} (hm : b = true) (q : ∀ H', Q (.bl true) H') : Ent L (Q (.bl b)) := fun H _ => by rw [hm]; exact q H
theorem c_ixT {xs : List α} {i : Int} {k : α → Prop} (hm : obx (atI xs i) k) (t : Take (vl (kT E) v xs) L R) (q : ∀ w, k w → ∀ u, Ent (vl E u w :: L) (Q u)) : Ent L fun H => rIxT K v (.int i) H Q := fun H h => by
  obtain ⟨w, e, hk⟩ := hm
  obtain ⟨a, us, rfl, h1, h2⟩ := t.vl h
  have el := h2.len
  unfold atI at e
  cases j : ixN xs.length i with
  | none => rw [j] at e; cases e
  | some j' =>
    rw [j] at e
    obtain ⟨u, hu, hp⟩ := h2.getR e
    exact ⟨a, us, i, u, rfl, rfl, SqT.of h1, by unfold atI; rw [el, j]; exact hu, q w hk u H (h.vl hp)⟩
theorem c_lenT {xs : List α} (t : Take (vl (kT E) v xs) L R) (q : Ent L (Q (.int xs.length))) : Ent L fun H => rLenK K [v] H Q := fun H h => by
  obtain ⟨a, us, rfl, h1, h2⟩ := t.vl h
  exact ⟨a, us, rfl, .inr (SqT.of h1), by rw [h2.len]; exact q H h⟩
theorem walk_kT (xs : List α) (us : List V) (a : Addr) : Walk (Itt K a) xs.length (fun H => H a = some (.tup us) ∧ All2 (E.P H) us xs) (fun i H x H' => H' = H ∧ ∃ e, xs[i]? = some e ∧ E.P H x e) :=
  ⟨fun i H hi ⟨h1, h2⟩ => by
    obtain ⟨v, hv, _⟩ := h2.getR (List.getElem?_eq_getElem hi)
    exact ⟨us, v, SqT.of h1, hv⟩, fun H ⟨h1, h2⟩ => ⟨us, SqT.of h1, Nat.le_of_eq h2.len⟩, fun i H x H' hi ⟨h1, h2⟩ ⟨e, y⟩ => ⟨e, h2.get (y us (SqT.of h1))⟩⟩
theorem walk_kT' (xs : List α) (a : Addr) : Walk (Itt K a) xs.length (fun H => (kT E).P H (.ref a) xs) (fun i H x H' => H' = H ∧ ∃ e, xs[i]? = some e ∧ E.P H x e) :=
  ⟨fun i H hi ⟨a', us, e, h1, h2⟩ => by
    cases e
    exact (walk_kT xs us a).goes i H hi ⟨h1, h2⟩, fun H ⟨a', us, e, h1, h2⟩ => by
    cases e
    exact (walk_kT xs us a).stops H ⟨h1, h2⟩, fun i H x H' hi ⟨a', us, e, h1, h2⟩ y => by
    cases e
    exact (walk_kT xs us a).yields i H x H' hi ⟨h1, h2⟩ y⟩
theorem c_forT {xs : List α} {m0 : M} {bd : α → M → (M → Prop) → (M → Prop) → Prop} {k : M → Prop} {g : TG} {tb : TS} (hm : forL xs m0 bd k) (up : M → B → List (Option (Option V))) (Pm : M → B → List HA) (b0 : B) (h0 : σ = upds σ (up m0 b0)) (s0 : Sub L (Pm m0 b0 ++ R)) (t : Take (vl (kT E) v xs) R R')
    (hs : (∀ m b, k m → Ent (Pm m b ++ R) (nx (upds σ (up m b)))) → ∀ x m b (nxt : M → Prop), bd x m nxt k → ∀ v, Ent (vl E v x :: (Pm m b ++ R)) fun H => g v (upds σ (up m b)) H fun σ2 H2 => tb ⟨fun σ' H' => ∃ m b, nxt m ∧ σ' = upds σ (up m b) ∧ Holds (Pm m b ++ R) H', rt, nx, fun σ' H' => ∃ m b, nxt m ∧ σ' = upds σ (up m b) ∧ Holds (Pm m b ++ R) H'⟩ σ2 H2)
    (hd : ∀ m b, k m → Ent (Pm m b ++ R) (nx (upds σ (up m b)))) : Ent L fun H => kFT K g tb ⟨nx, rt, bk, ct⟩ σ v H := fun H h => by
  have hT : ∀ m b H', Holds (Pm m b ++ R) H' → (kT E).P H' v xs := fun m b H' z => by
    obtain ⟨S, z⟩ := z
    obtain ⟨S1, S2, _, z2, _⟩ := HL.app.mp z
    exact t.vl ⟨S2, z2⟩
  obtain ⟨a, us, e, h1, h2⟩ := hT m0 b0 H (s0.to h)
  subst e
  have z := for_it (walk_kT' (E := E) xs a) (D := ⟨nx, rt, bk, ct⟩) (g := g) (tb := tb) (σ := σ) (H := H) (fun i σ' H' => ∃ m b, forL (xs.drop i) m bd k ∧ i ≤ xs.length ∧ σ' = upds σ (up m b) ∧ Holds (Pm m b ++ R) H') ⟨m0, b0, hm, Nat.zero_le _, h0, s0.to h⟩ (fun i σ' H' _ ⟨m, b, _, _, _, z⟩ => hT m b H' z) (fun i x σ' H' H'' hi ⟨m, b, hf, _, e, z⟩ ⟨e2, y, hy, hp⟩ => by
      subst e e2
      have ed : xs.drop i = y :: xs.drop (i + 1) := by
        rw [List.drop_eq_getElem_cons hi]
        congr 1
        exact Option.some.inj ((List.getElem?_eq_getElem hi).symm.trans hy)
      rw [ed, forL_cons] at hf
      have r := hs hd y m b (fun m' => forL (xs.drop (i + 1)) m' bd k ∧ i + 1 ≤ xs.length) (by
        have : (fun m' => forL (xs.drop (i + 1)) m' bd k ∧ i + 1 ≤ xs.length) = fun m' => forL (xs.drop (i + 1)) m' bd k := by
          funext m'
          exact propext ⟨fun z => z.1, fun z => ⟨z, hi⟩⟩
        rw [this]
        exact hf) x H'' (z.vl hp)
      simpa only [and_assoc] using r) (fun σ' H' ⟨m, b, hf, _, e, z⟩ => by
      subst e
      rw [List.drop_length] at hf
      exact hd m b hf H' z)
  exact ⟨a, rfl, ⟨us, SqT.of h1⟩, z⟩
abbrev max2 (i j : Int) : Int := if j > i then j else i
abbrev min2 (i j : Int) : Int := if j < i then j else i
def minI : List Int → Option Int
  | [] => none
  | x :: xs => some (xs.foldl (fun a b => if b < a then b else a) x)
def maxI : List Int → Option Int
  | [] => none
  | x :: xs => some (xs.foldl (fun a b => if b > a then b else a) x)
theorem minI_of : ∀ {ns : List Int} {w : Int}, minI ns = some w → w ∈ ns ∧ ∀ x ∈ ns, w ≤ x
  | [], w, h => by cases h
  | x :: xs, w, h => by
    have key : ∀ (ys : List Int) (a : Int), (ys.foldl (fun a b => if b < a then b else a) a = a ∨ ys.foldl (fun a b => if b < a then b else a) a ∈ ys) ∧ ys.foldl (fun a b => if b < a then b else a) a ≤ a ∧ ∀ y ∈ ys, ys.foldl (fun a b => if b < a then b else a) a ≤ y := by
      intro ys
      induction ys with
      | nil => intro a; simp
      | cons y ys ih =>
        intro a
        obtain ⟨h1, h2, h3⟩ := ih (if y < a then y else a)
        simp only [List.foldl_cons]
        refine ⟨?_, ?_, fun z hz => ?_⟩
        · rcases h1 with h1 | h1
          · rw [h1]
            by_cases c : y < a
            · rw [if_pos c]; exact .inr (List.mem_cons_self ..)
            · rw [if_neg c]; exact .inl rfl
          · exact .inr (List.mem_cons_of_mem _ h1)
        · by_cases c : y < a
          · rw [if_pos c] at h2 ⊢; omega
          · rw [if_neg c] at h2 ⊢; exact h2
        · rcases List.mem_cons.mp hz with e | hz
          · subst e
            by_cases c : z < a
            · rw [if_pos c] at h2 ⊢; exact h2
            · rw [if_neg c] at h2 ⊢; omega
          · exact h3 z hz
    obtain rfl : xs.foldl (fun a b => if b < a then b else a) x = w := Option.some.inj h
    obtain ⟨h1, h2, h3⟩ := key xs x
    refine ⟨?_, fun z hz => ?_⟩
    · rcases h1 with h1 | h1
      · rw [h1]; exact List.mem_cons_self ..
      · exact List.mem_cons_of_mem _ h1
    · rcases List.mem_cons.mp hz with e | hz
      · subst e; exact h2
      · exact h3 z hz
theorem c_min {ns : List Int} {k : Int → Prop} (hm : obx (minI ns) k) (t : Take (ls (kI (K := K)) l ns) L R) (q : ∀ w, k w → Ent L (Q (.int w))) : Ent L fun H => rMin K [.ref l] H Q := fun H h => by
  obtain ⟨w, e, hk⟩ := hm
  obtain ⟨vs, h1, h2⟩ := t.ls h
  obtain rfl := all2_I h2
  obtain ⟨e1, e2⟩ := minI_of e
  refine ⟨l, ns, rfl, SqL.of h1, List.length_pos_of_mem e1, fun m hm hle => ?_⟩
  have a := hle w e1
  have b := e2 m hm
  obtain rfl : m = w := by omega
  exact q m hk H h
theorem all2_rep {r : V → α → Prop} {us : List V} {xs : List α} (h : All2 r us xs) : ∀ n : Nat, All2 r (List.replicate n us).flatten (List.replicate n xs).flatten
  | 0 => .nil
  | n + 1 => by
    rw [List.replicate_succ, List.replicate_succ, List.flatten_cons, List.flatten_cons]
    exact h.app (all2_rep h n)
theorem c_rep {xs : List α} {n : Int} {k : Prop} (hm : grd (-100000 ≤ n ∧ n ≤ 100000 ∧ xs.length ≤ 100) k) (t : Take (ls E l xs) L R) (q : k → ∀ p, Ent (ls E p (List.replicate n.toNat xs).flatten :: L) (Q (.ref p))) : Ent L fun H => rRep (.ref l) (.int n) H Q := fun H h => by
  obtain ⟨vs, h1, h2⟩ := t.ls h
  exact w_rep h1 hm.1.1 hm.1.2.1 (by rw [h2.len]; exact hm.1.2.2) fun p np => q hm.2 p _ (h.ls_new np (all2_rep h2 _))
def obu0 (o : α ⊕ β) (k : α → Prop) : Prop := ∃ x, o = .inl x ∧ k x
def obu1 (o : α ⊕ β) (k : β → Prop) : Prop := ∃ x, o = .inr x ∧ k x
theorem obu0_l {x : α} {k : α → Prop} : obu0 (.inl x : α ⊕ β) k = k x := by simp [obu0]
theorem obu1_r {x : β} {k : β → Prop} : obu1 (.inr x : α ⊕ β) k = k x := by simp [obu1]
theorem obu1_l {x : α} {k : β → Prop} : obu1 (.inl x : α ⊕ β) k = False := by simp [obu1]
theorem c_getU0 {o : α ⊕ β} {k : α → Prop} (hm : obu0 o k) (t : Take (vl (kU E F) v o) L R) (q : ∀ w, k w → Ent (vl E v w :: L) φ) : Ent L φ := fun H h => by
  obtain ⟨w, rfl, hk⟩ := hm
  exact q w hk H (h.vl (t.vl h))
theorem c_getU1 {o : α ⊕ β} {k : β → Prop} (hm : obu1 o k) (t : Take (vl (kU E F) v o) L R) (q : ∀ w, k w → Ent (vl F v w :: L) φ) : Ent L φ := fun H h => by
  obtain ⟨w, rfl, hk⟩ := hm
  exact q w hk H (h.vl (t.vl h))
/-! two kinds told apart by their lengths -/
class ElsLen (Es : Els K α) where
  n : Nat
  len : ∀ x, (Es.d x).length = n
instance : ElsLen (kNil (K := K)) := ⟨0, fun _ => rfl⟩
instance {A : El K α} : ElsLen (kC1 A) := ⟨1, fun _ => rfl⟩
instance {A : El K α} {B : Els K β} [l : ElsLen B] : ElsLen (kC A B) := ⟨l.n + 1, fun x => by show (A.d x.1 :: B.d x.2).length = _; rw [List.length_cons, l.len]⟩
theorem eqvAll_len : ∀ {xs ys : List PyData}, xs.length ≠ ys.length → PyData.eqvAll xs ys = false
  | [], [], h => absurd rfl h
  | [], y :: ys, _ => by simp [PyData.eqvAll]
  | x :: xs, [], _ => by simp [PyData.eqvAll]
  | x :: xs, y :: ys, h => by
    simp only [PyData.eqvAll]
    rw [eqvAll_len (xs := xs) (ys := ys) (by simpa using h), Bool.and_false]
class Apart (A : El K α) (B : El K β) : Prop where
  l : ∀ x y, PyData.eqv (A.d x) (B.d y) = false
  r : ∀ x y, PyData.eqv (B.d y) (A.d x) = false
theorem apart_of {A : Els K α} {B : Els K β} [l : ElsLen A] [m : ElsLen B] (h : l.n ≠ m.n) : Apart (kTup A) (kTup B) := ⟨fun x y => by
  show PyData.eqv (.tuple (A.d x)) (.tuple (B.d y)) = false
  rw [PyData.eqv]
  exact eqvAll_len (by rw [l.len, m.len]; exact h), fun x y => by
  show PyData.eqv (.tuple (B.d y)) (.tuple (A.d x)) = false
  rw [PyData.eqv]
  exact eqvAll_len (by rw [l.len, m.len]; exact fun z => h z.symm)⟩
instance [DecidableEq α] [DecidableEq β] {A : El K α} {B : El K β} [D : ElD A] [G : ElD B] [P : Apart A B] : ElD (kU A B) := ⟨max D.n G.n, fun {H v x} h => by
  cases x with
  | inl a => exact D.lay (show A.P H v a from h)
  | inr b => exact G.lay (show B.P H v b from h), fun x => by
  cases x with
  | inl a => have := D.dep a; show (A.d a).depth ≤ _; omega
  | inr b => have := G.dep b; show (B.d b).depth ≤ _; omega, fun x y => by
  cases x with
  | inl a => cases y with
    | inl b => show PyData.eqv (A.d a) (A.d b) = _; rw [D.eqv]; simp
    | inr b => show PyData.eqv (A.d a) (B.d b) = _; rw [P.l]; simp
  | inr a => cases y with
    | inl b => show PyData.eqv (B.d a) (A.d b) = _; rw [P.r]; simp
    | inr b => show PyData.eqv (B.d a) (B.d b) = _; rw [G.eqv]; simp⟩
theorem c_wantMany {C : Addr} {X : XK} {x lo hi : Int} {k : Prop} (hm : grd (lo ≤ x ∧ x ≤ hi ∧ 0 ≤ x) k) (q : k → Ent L (Q .non)) : Ent L fun H => spWantMany K C [.int x, .int lo, .int hi] H Q X := e_wantMany hm.1.2.2 hm.1.1 hm.1.2.1 (q hm.2)
theorem c_wantWord {C : Addr} {X : XK} {x : Int} {k : Prop} (hm : grd (W16 x) k) (q : k → Ent L (Q .non)) : Ent L fun H => spWantWord K C [.int x] H Q X := e_wantWord hm.1 (q hm.2)
theorem c_W1 {X : XK} {ok : Int → Prop} {x : Int} {k : Prop} (hm : grd (ok x) k) (q : k → Ent L (Q .non)) : Ent L fun H => aW1 ok [.int x] H Q X := e_W1 hm.1 (q hm.2)
end
end Toy
namespace Toy
open PySem L2 PySem.Spec PyProof.Rows
/-! ## defs that are run where no repr is under way -/
structure FnG (P : Program) (w : World) (K : PySem.W.Frag) (mg : Str → Option Value) (base : Heap) (CX : CXT) (k : Nat) (f : Addr) (fd : FuncData) (ps : List Str) (sp : Sp) : Prop where
  many : ∀ vs H Q E, sp vs H Q E → vs.length = ps.length
  go : ∀ (A : Around) (out : List Env) (s : Shared) (H : Hp) (ar : Args) (us : List Value) (vs : List V) (Q : VK) (E : XK), A.guards = some [] → Room k A → Env0 P w K mg base A out s H →
    BindsTo s fd ar (ps.zip us) → Vals vs us → sp vs H Q E → codeAny (model P w) A (.call (.ref f) ar) (CR CX out P w H s Q E) s
section
variable {P : Program} {w : World} {K : PySem.W.Frag} {mg : Str → Option Value} {base : Heap} {k : Nat} {f : Addr} {fd : FuncData} {ps : List Str} {sp : Sp}
theorem FnG.of {CX : CXT} (F : FnOk P w K mg base CX k f fd ps sp) : FnG P w K mg base CX k f fd ps sp :=
  ⟨F.len, fun A out s H ar us vs Q E _ hr he hb hv hs => F.run A out s H ar us vs Q E hr he hb hv hs⟩
theorem okG {x qual : Str} {st : Stmt} {N : List Str} (F : Fun K x qual st f fd) (S : FnScope N ps (defScope st)) (many : ∀ vs H Q E, sp vs H Q E → vs.length = ps.length)
    (body : ∀ (cdv : Value) (A : Around) (out : List Env) (s : Shared) (H : Hp) (vs : List V) (Q : VK) (E : XK), A.guards = some [] → Room k (A.deeper (envOfC qual (defScope st) s.heap.objs.size f cdv)) → sp vs H Q E →
      ∃ t, PSs (cxOf (L2.CX P w) P w K mg base N qual (defScope st) f cdv A out s H E) (defBody st) t ∧ t ⟨fun _ H' => Q .non H', Q, fun _ _ => False, fun _ _ => False⟩ (start N vs) H) :
    FnG P w K mg base (L2.CX P w) (k + 1) f fd ps sp := by
  obtain ⟨oc, od, kV, dc, pm, an, cv, ct, sl, rfl, at_, cin⟩ := F.ex
  refine ⟨many, fun A out s H ar us vs Q E hg hr e0 hb r q => ?_⟩
  have size := many _ _ _ _ q
  have KX : K.In s.heap := e0.mod.kin.keeps fun b o e => (e0.bs b o e).1
  have lim : s.heap.NoLimit := e0.mod.nolimit.keeps fun b o e => (e0.bs b o e).1
  have names : ∀ y ∈ ps.zip us, (defScope st).names.lookup y.1 = some .local ∨ ((defScope st).names.lookup y.1 = some .cell ∧ ((cellsFrom (s.heap.objs.size + 1) (defScope st).names []).lookup y.1).isSome = true) := by
    rintro ⟨n, v⟩ hin
    exact (S.par n (List.of_mem_zip hin).1).elim .inl fun z => .inr ⟨z, PySem.W.cellsFrom_some _ _ _ (.inl z)⟩
  refine codeAny_call_function hr.depth (KX _ _ at_) rfl S.co S.gen rfl (PySem.W.codeRec_of KX cin) (hb _ _ _ _ (wpAny_newFunctionEnv_cells S.kind names fun env he s1 x => ?_))
  subst he
  refine ⟨lim.keeps x.toInCall.keep, codeAny_func ?_⟩
  obtain ⟨t, ht, hq⟩ := body cv A out s H vs Q E hg (hr.deeper _) q
  have I := inv_start (CX := L2.CX P w) (E := E) S hr.hd e0 size r x
  refine wpAny_mono (ht.run [] s1 (start N vs) H _ I hq) ?_ fun _ _ z => z
  intro fl s' z
  have fin : ∀ {τ : L2.St} {H' : Hp} {v : V} {u : Value}, Inv (cxOf (L2.CX P w) P w K mg base N qual (defScope st) f cv A out s H E) [] τ H' s' → RelV v u → Q v H' → CE out P w H s Q u s' := fun J rv qv => ⟨_, _, J.os, J.bare, J.base, J.hok, rv, qv⟩
  cases fl with
  | ret u => obtain ⟨v, τ, H', J, rv, qv⟩ := z; exact fin J rv qv
  | next => obtain ⟨τ, H', J, qv⟩ := z; exact fin (v := V.non) (u := Value.none) J rfl qv
  | brk => obtain ⟨_, _, _, qv⟩ := z; exact qv.elim
  | cont => obtain ⟨_, _, _, qv⟩ := z; exact qv.elim
end
section
variable {X : Cx} {CX : CXT} {k : Nat} {f : Addr} {fd : FuncData} {ps : List Str} {sp : Sp} {ds : List Value} {dvs : List V} {E : XK} {x : Str} {p pos : Pos} {e : Expr} {es : List Expr} {t : TA}
theorem run_G {pins : List (Addr × Obj)} {σ : L2.St} {H : Hp} {s : Shared} {Q : VK} {us : List Value} {vs : List V} (F : FnG X.prog X.w X.K X.mg X.base CX k f fd ps sp) (hgd : X.A.guards = some []) (hr : Room k X.A) (hb : Binds X.K fd ps ds) (hd : Vals dvs ds) (hx : Passes CX X E)
    (I : Inv X pins σ H s) (r : Vals vs us) (h : sp (vs ++ dvs) H Q E) : wpAny (model X.prog X.w) X.A (call (.ref f) us) (EP X pins σ Q) X.xe s := by
  have both : Vals (vs ++ dvs) (us ++ ds) := r.append hd
  have many : (us ++ ds).length = ps.length := both.length ▸ F.many _ _ _ _ h
  refine wpAny_call (codeAny_mono (F.go X.A X.stack s H ⟨us, []⟩ (us ++ ds) (vs ++ dvs) Q E hgd hr I.env0 (hb s us I.kIn many) both h) ?_)
  intro fl s' z
  cases fl with
  | error er => exact hx pins σ H s er s' I z
  | ok fl =>
    cases fl with
    | ret u => exact I.after z
    | next => exact z.elim
    | brk => exact z.elim
    | cont => exact z.elim
theorem pe_callG (F : FnG X.prog X.w X.K X.mg X.base CX k f fd ps sp) (hgd : X.A.guards = some []) (hr : Room k X.A) (hg : Gl X x) (hm : X.mg x = some (.ref f)) (hk : PySem.W.keepIn X.K (.ref f) = true) (hb : Binds X.K fd ps ds) (hd : Vals dvs ds) (hx : Passes CX X E) (ha : PA X (e :: es) t)
    (hdb : (x == ("__debug__" : Str)) = false := by decide) (he : starEach (e :: es) X.env = (false, eval e X.env) :: starEach es X.env := by rfl) (hpl : (backTo pos (starEach es X.env)).any (·.1) = false := by rfl) :
    PE X (.Call (.Name x p) (e :: es) [] pos) (tCall sp dvs E t) :=
  ⟨fun pins s σ H Q I h => wpAny_Call_Name_kw (ld_glob I hg hm (PySem.W.callWith_K (h₀ := X.base) I.ok.mod.kin hk (thn (ha.run pos pins s σ H _ I h) fun us s1 ⟨vs, H1, I1, r, q⟩ => ⟨I1.kIn, run_G F hgd hr hb hd hx I1 r q⟩) he hpl) hdb)⟩
theorem pe_call0G (F : FnG X.prog X.w X.K X.mg X.base CX k f fd ps sp) (hgd : X.A.guards = some []) (hr : Room k X.A) (hg : Gl X x) (hm : X.mg x = some (.ref f)) (hk : PySem.W.keepIn X.K (.ref f) = true) (hb : Binds X.K fd ps ds) (hd : Vals dvs ds) (hx : Passes CX X E)
    (hdb : (x == ("__debug__" : Str)) = false := by decide) : PE X (.Call (.Name x p) [] [] pos) (tCall sp dvs E tNil) :=
  ⟨fun pins s σ H Q I h => wpAny_Call_Name_kw (ld_glob I hg hm (PySem.W.callWith_K0 I.kIn hk (run_G (us := []) F hgd hr hb hd hx I .nil h)) hdb)⟩
/-! repr of what stands in the heap -/
structure Shw (d : PyData) : Prop where
  sh : d.showable = true
  dp : d.depth ≤ 60
  nd : d.hasDict = false
  ln : d.shown.length ≤ sizeLine
def rReprC {K : PySem.W.Frag} {α : Type} (C : Ct K α) : List V → Hp → VK → Prop := fun vs H Q => ∃ (a : Addr) (x : α), vs = [.ref a] ∧ C.P H (.ref a) x ∧ Shw (C.d x) ∧ Q (.str (C.d x).shown) H
theorem un_kept {fs : List Addr} {H : Hp} {h h' : Heap} (k : ∀ b o, h.get? b = some o → h'.get? b = some o) : Un fs [] H H h h' :=
  ⟨fun b o e _ _ _ => k b o e, fun b o e _ _ _ => ⟨o.slots, k b o e⟩, fun _ _ _ n _ => n, fun b o e _ => ⟨o, k b o e⟩, fun _ _ e => e, fun _ _ _ e => e, fun b ps e => ⟨#[], by simpa using e⟩⟩
theorem call_reprC {K : PySem.W.Frag} {α : Type} (C : Ct K α) (hgd : X.A.guards = some []) (hu : X.A.units + 64 < cLine) (hK : X.K = K := by rfl) : CallR X (.builtin "repr") (rReprC C) := by
  subst hK
  intro pins s σ H xs us Q I r h
  obtain ⟨a, x, rfl, hp, sh, q⟩ := h
  obtain ⟨u, rfl, rx⟩ := vals1 r
  obtain rfl : u = .ref a := rx
  obtain ⟨as, rd⟩ := Dp.reads I _ _ _ (C.dp hp) rfl
  exact PySem.repr_of_reads' rd sh.sh (PyData.noDict_hsm sh.nd) hgd (by have := sh.dp; omega) (fun b o h => h) (fun h' u tk hk => ⟨.str _, H, I.un (un_kept hk) (I.hok.kept hk), ⟨_, rfl⟩, q⟩) sh.ln
/-! a list that is never changed again: seen as locked -/
theorem un_frz {fs : List Addr} {H : Hp} {h : Heap} {p : Addr} {xs : List V} {o : Obj} (e : H p = some (.lst xs)) : Un fs [] H (upd H p (.frz o (.lst xs))) h h :=
  ⟨fun b o e _ _ _ => e, fun b o e _ _ _ => ⟨o.slots, e⟩, fun b _ _ n _ => by rw [upd_ne fun z => by rw [z, e] at n; cases n]; exact n, fun b o e _ => ⟨o, e⟩, fun b ys z => by rw [upd_ne fun y => by rw [y, e] at z; cases z]; exact z,
   fun b o u z => by rw [upd_ne fun y => by rw [y, e] at z; cases z]; exact z, fun b ps z => ⟨#[], by rw [upd_ne fun y => by rw [y, e] at z; cases z]; simpa using z⟩⟩
theorem Inv.freeze {pins : List (Addr × Obj)} {σ : L2.St} {H : Hp} {s : Shared} {p : Addr} {xs : List V} (I : Inv X pins σ H s) (e : H p = some (.lst xs)) : ∃ o, Inv X pins σ (upd H p (.frz o (.lst xs))) s := by
  obtain ⟨z, its, n, r, e2⟩ := I.hok p _ e
  refine ⟨_, I.un (h' := s.heap) (t' := s.toks) (un_frz (o := { cls := .type "list", data := .seq its.toArray n }) e) fun b u q => ?_⟩
  by_cases hb : b = p
  · subst hb
    rw [upd_same] at q
    cases q
    exact ⟨e2, z, its, n, r, e2⟩
  · rw [upd_ne hb] at q
    refine (I.hok b u q).stay (fun _ _ _ k => k) (fun c k => ?_) fun c ys k => ?_
    · rw [upd_ne fun y => by rw [y, e] at k; cases k]; exact k
    · rw [upd_ne fun y => by rw [y, e] at k; cases k]; exact k
def tFrz (t : TE) : TE := fun σ H Q => t σ H fun v H1 => ∃ p xs, v = .ref p ∧ H1 p = some (.lst xs) ∧ ∀ o, Q v (upd H1 p (.frz o (.lst xs)))
theorem pe_frz {t : TE} {e : Expr} (h : PE X e t) : PE X e (tFrz t) := ⟨fun pins s σ H Q I q => thn (h.run pins s σ H _ I q) fun u s' ⟨v, H', I', r, p, xs, e1, e2, q'⟩ => by
  obtain ⟨o, J⟩ := Inv.freeze I' e2
  exact ⟨v, _, J, r, q' o⟩⟩
end
section
variable {K : PySem.W.Frag} {α β : Type} {L R R' : List HA} {σ : L2.St} {Q : VK} {v : V} {a p l : Addr} {us : List V} {H : Hp} {E : El K α} {te : TE}
/-- a list that is never changed -/
def kFz (A : El K α) : El K (List α) := ⟨fun H v x => ∃ a o us, v = .ref a ∧ H a = some (.frz o (.lst us)) ∧ All2 (A.P H) us x, fun ⟨a, o, us, e, h, z⟩ k => ⟨a, o, us, e, k a _ h (.inr rfl), z.imp fun _ _ y => A.st y k⟩, fun x => .list (x.map A.d), fun ⟨a, o, us, e, h, z⟩ => by
  subst e
  exact .lst (.inl (.inr ⟨o, h⟩)) (dpAll_of (z.imp fun _ _ y => A.dp y))⟩
instance [DecidableEq α] {A : El K α} [D : ElD A] : ElD (kFz A) := ⟨D.n + 1, fun {H v x} h => by show (PyData.list (x.map A.d)).canLay0 = true; rw [PyData.canLay0]; obtain ⟨t, _, us, _, _, h⟩ := h; exact D.layAll h, fun x => by
  have := D.depAll x
  show (PyData.list (x.map A.d)).depth ≤ _
  simp only [PyData.depth]; omega, fun x y => by
  show PyData.eqv (.list (x.map A.d)) (.list (y.map A.d)) = _
  rw [PyData.eqv]; exact D.eqvAll x y⟩
instance {A : El K α} : ElN (kFz A) := ⟨fun x => by show PyData.eqv .none (.list (x.map A.d)) = false ∧ PyData.eqv (.list (x.map A.d)) .none = false; constructor <;> simp [PyData.eqv], fun H v x h z => by obtain ⟨t, _, us, e, _⟩ := h; rw [e] at z; cases z⟩
theorem Holds.frz {xs : List α} (h : Holds (ls E l xs :: R) H) : ∃ vs, H l = some (.lst vs) ∧ ∀ o, Holds (Toy.vl (kFz E) (.ref l) xs :: R) (L2.upd H l (.frz o (.lst vs))) := by
  obtain ⟨vs, h1, h2⟩ := h.ls_op
  refine ⟨vs, h1.pt_get, fun o => ?_⟩
  obtain ⟨S, S1, S2, ⟨e, _, s⟩, h4, hd, hs⟩ := h1
  have kp : ∀ b ob, H b = some ob → b ≠ l → L2.upd H l (.frz o (.lst vs)) b = some ob := fun b ob e n => by rw [upd_ne n]; exact e
  have z : Holds R (L2.upd H l (.frz o (.lst vs))) := ⟨S2, h4.st fun b ob e2 q => kp b ob e2 (by
    rintro rfl
    rcases q with q | q
    · exact hd b ((s b).mpr rfl) q
    · rw [e] at e2; cases e2; cases q)⟩
  refine Holds.vl z ⟨l, o, vs, rfl, upd_same, h2.imp fun v x y => E.st y fun b ob e2 q => kp b ob e2 (by
    rintro rfl
    rcases q with q | q
    · exact q.elim
    · rw [e] at e2; cases e2; cases q)⟩
def kFrz (Q : VK) (v : V) (H1 : Hp) : Prop := ∃ p xs, v = .ref p ∧ H1 p = some (.lst xs) ∧ ∀ o, Q v (upd H1 p (.frz o (.lst xs)))
theorem e_frz0 (q : Ent L fun H => te σ H (kFrz Q)) : Ent L fun H => tFrz te σ H Q := q
theorem c_frz {xs : List α} (E : El K α) (t : Take (ls E l xs) L R) (q : Ent (vl (kFz E) (.ref l) xs :: R) (Q (.ref l))) : Ent L fun H => kFrz Q (.ref l) H := fun H h => by
  obtain ⟨vs, h1, h2⟩ := Holds.frz (t.to h)
  exact ⟨l, vs, rfl, h1, fun o => q _ (h2 o)⟩
theorem e_repr {C : Ct K α} {x : α} (h : IsC C L (.ref a) x) (sh : Shw (C.d x)) (q : Ent L (Q (.str (C.d x).shown))) : Ent L fun H => rReprC C [.ref a] H Q := fun H z => ⟨a, x, rfl, h H z, sh, q H z⟩
theorem c_repr {C : Ct K α} {x : α} {k : Prop} (hm : grd (Shw (C.d x)) k) (h : IsC C L (.ref a) x) (q : k → Ent L (Q (.str (C.d x).shown))) : Ent L fun H => rReprC C [.ref a] H Q := e_repr h hm.1 (q hm.2)
end
/-! the call of the law -/
section
variable {P : Program} {w : World} {K : PySem.W.Frag} {mg mb : Str → Option Value} {k : Nat} {fa a : Addr} {fd : FuncData} {x : Str} {sp : Sp} {s : Shared} {us : List Value} {ns : List Int}
theorem law_callG {CX : CXT} (KX : K.In s.heap) (hns : s.heap.Ns mainGlobals mg) (hb : s.heap.Ns builtinsNs mb) (hbb : ∀ x : Str, x ≠ "__name__" → mb x = bootBuiltins x) (hlim : s.heap.NoLimit) (hg : s.gens = #[])
    (ha : s.heap.get? a = some { cls := .type "list", data := .seq us.toArray }) (hi : IntsAre us ns) (hl : ns.length ≤ sizeLine) (hr : Room k callerA)
    (F : ∀ base : Heap, K.In base → base.Ns mainGlobals mg → FnG P w K mg base CX k fa fd [x] sp) (hbind : ∀ (s : Shared) (u : Value), BindsTo s fd ⟨[u], []⟩ [(x, u)])
    (hsp : ∀ H : Hp, Only H → SqL K H a (ns.map V.int) → sp [.ref a] H (fun v _ => v = .bl true) fun _ _ _ => False) (hCX : ∀ H e s', CX [] H s (fun _ _ _ => False) e s' → False) :
    codeAny (model P w) callerA (.call (.ref fa) ⟨[.ref a], []⟩) (fun r s' => r = .ok (.ret (.bool true)) ∧ OldK s.heap s'.heap ∧ s'.os = s.os ∧ AllBare s'.gens) s := by
  have rv := vals_ints hi
  have many := hi.length
  have main : ∀ H : Hp, Only H → SqL K H a (ns.map V.int) → HOk P w H s.heap → (∀ b, H b ≠ none → b = a ∧ K.lookup a = none) → codeAny (model P w) callerA (.call (.ref fa) ⟨[.ref a], []⟩) (fun r s' => r = .ok (.ret (.bool true)) ∧ OldK s.heap s'.heap ∧ s'.os = s.os ∧ AllBare s'.gens) s := by
    intro H only sq ok at_
    have under : ∀ {b : Addr} {o : Obj}, s.heap.get? b = some o → H b = none → (hidT s.heap H).get? b = some o := fun e n => hidT_get e n
    have space : ∀ {b : Addr} {m : Str → Option Value}, s.heap.Ns b m → (hidT s.heap H).Ns b m := by
      rintro b m ⟨o, es, ep, e, d, r⟩
      refine ⟨o, es, ep, under e (Classical.byContradiction fun q => ?_), d, r⟩
      obtain ⟨rfl, _⟩ := at_ b q
      rw [ha] at e
      cases e
      cases (show Data.seq us.toArray _ = Data.dict es ep from d)
    have inn : K.In (hidT s.heap H) := fun b o e => under (KX b o e) (Classical.byContradiction fun q => by
      obtain ⟨rfl, n⟩ := at_ b q
      rw [n] at e
      cases e)
    have limit : (hidT s.heap H).NoLimit := by
      obtain ⟨m, n1, n2⟩ := hlim
      exact ⟨m, space n1, n2⟩
    have e0 : Env0 P w K mg (hidT s.heap H) callerA [] s H := {
      frames := rfl, mod := ⟨inn, space hns, ⟨mb, space hb, hbb⟩, limit⟩, bs := fun b o e => of_hidT e, bsz := Nat.le_of_eq (hidT_size _ _), funs := trivial,
      frf := fun b z => (List.not_mem_nil (show b ∈ ([] : List Addr) from z)).elim, hok := ok, bare := .of_eq hg }
    have run := (F _ inn (space hns)).go callerA [] s H ⟨[.ref a], []⟩ [.ref a] [.ref a] _ _ rfl hr e0 (hbind s (.ref a)) (.cons rfl .nil) (hsp H only sq)
    refine codeAny_mono run fun r s' z => ?_
    cases r with
    | error e => exact (hCX H e s' z).elim
    | ok fl =>
      cases fl with
      | next => exact z.elim
      | brk => exact z.elim
      | cont => exact z.elim
      | ret u =>
        obtain ⟨v, H', os, bare, un, ok', ru, qv⟩ := z
        have qv : v = .bl true := qv
        subst qv
        obtain rfl : u = Value.bool true := ru
        refine ⟨rfl, OldK.of_keep fun b o e => ?_, os, bare⟩
        rcases only b with n | ⟨ob, xs, n⟩
        · exact un.keep b o e n (fun z => (List.not_mem_nil (show b ∈ ([] : List Addr) from z)).elim) (by simp)
        · obtain ⟨e1, _⟩ := ok b _ n
          obtain ⟨e2, _⟩ := ok' b _ (un.frzs b ob _ n)
          rw [e] at e1
          cases e1
          exact e2
  have none_ok : ∀ {b : Addr} {u : HO}, (none : Option HO) = some u → False := fun z => by cases z
  cases hk : K.lookup a with
  | some o =>
    have e := KX a o hk
    rw [ha] at e
    cases e
    exact main (fun _ => none) (fun _ => .inl rfl) (.inr ⟨_, us.toArray, _, hk, rfl, rfl, rfl, by rw [List.size_toArray, many]; exact hl, by simpa using rv⟩) (fun b u z => (none_ok (b := b) z).elim) fun b z => (z rfl).elim
  | none =>
    let ob : Obj := { cls := .type "list", data := .seq us.toArray }
    have pos : ∀ b, b = a → (if b = a then some (HO.frz ob (.lst (ns.map V.int))) else none) = some (HO.frz ob (.lst (ns.map V.int))) := fun b e => if_pos e
    refine main (fun b => if b = a then some (.frz ob (.lst (ns.map V.int))) else none) (fun b => ?_) (.inl (.inr ⟨ob, pos a rfl⟩)) (fun b u z => ?_) fun b z => ⟨Classical.byContradiction fun n => z (if_neg n), hk⟩
    · rcases Classical.em (b = a) with e | e
      · exact .inr ⟨_, _, pos b e⟩
      · exact .inl (if_neg e)
    · rcases Classical.em (b = a) with e | e
      · cases (pos b e).symm.trans z
        subst e
        exact ⟨ha, by rw [List.length_map]; exact hl, us, _, rv, ha⟩
      · exact (none_ok (b := b) ((if_neg e).symm.trans z)).elim
theorem walk_ofG {l : PySem.W.OpenLaw} {n k : Nat} {q : Program} {loose : List Str} {XP : (Str → Option Value) → Heap → Prop} {YP : World → Heap → Prop} {d : DefRec} {K : Params → PySem.W.Frag} {CX : World → CXT} {sp : World → Sp} {x : Str}
    (hn : l.most = some n) (hn2 : n ≤ sizeLine) (hdf : d.params.defaults = []) (hr : Room k callerA) (hY : ∀ (w : World) (h : Heap), YP w h → (K w.params).In h)
    (F : ∀ (w : World) (mg : Str → Option Value) (fa : Addr) (h : Heap), (K w.params).In h → h.Ns mainGlobals mg → mg d.name = some (.ref fa) →
      ∃ fd : FuncData, (∀ (s : Shared) (u : Value), BindsTo s fd ⟨[u], []⟩ [(x, u)]) ∧ ∀ base : Heap, (K w.params).In base → base.Ns mainGlobals mg → FnG l.prog w (K w.params) mg base (CX w) k fa fd [x] (sp w))
    (hsp : ∀ (w : World) (H : Hp) (a : Addr) (ns : List Int), ns.length ≤ n → Only H → SqL (K w.params) H a (ns.map V.int) → sp w [.ref a] H (fun v _ => v = .bl true) fun _ _ _ => False)
    (hCX : ∀ (w : World) (H : Hp) (s : Shared) (e : Value) (s' : Shared), CX w [] H s (fun _ _ _ => False) e s' → False) : PySem.W.WalkO q loose XP YP l.row.toRowW d [] (fun f vs => PySem.call f vs) := by
  refine Att.attach_call hn hdf fun w t s mg mb fa o pm cd doc a us ns G Y ho hd hcd hmg hobj hints hlen hg => ?_
  obtain ⟨fd, hb, hF⟩ := F w mg fa _ (hY w _ Y) G.T.g hmg
  exact law_callG (hY w _ Y) G.T.g G.T.b G.T.builtins G.T.nolimit hg hobj hints (Nat.le_trans hlen hn2) hr hF hb (fun H hO hS => hsp w H a ns hlen hO hS) fun H e s' => hCX w H s e s'
end
/-! ### a list or a tuple, as the callers hold it -/
theorem ty_sqL {K : PySem.W.Frag} {H : Hp} {a : Addr} {vs : List V} (h : SqL K H a vs) : TyX K H (.ref a) (.type "list") := by
  rcases h with (h | ⟨o, h⟩) | ⟨o, _, _, h, c, _⟩
  · exact .base (.lst h)
  · exact .base (.frz h)
  · exact .kList h c
theorem ty_sqT {K : PySem.W.Frag} {H : Hp} {a : Addr} {vs : List V} (h : SqT K H a vs) : TyX K H (.ref a) (.type "tuple") := by
  rcases h with (h | ⟨o, h⟩) | ⟨o, _, _, h, c, _⟩
  · exact .base (.tup h)
  · exact .fTuple h
  · exact .kTuple h c
section
variable {K : PySem.W.Frag} {α β : Type} {L R R' F F' : List HA} {σ : L2.St} {Q : VK} {v : V} {a p l : Addr} {us : List V} {H : Hp} {E : El K α} {te ta : TE} {xs : List α}
inductive SqAt (E : El K α) (F : List HA) : V → List α → Prop
  | lst {a : Addr} {xs : List α} : (∀ H, Holds F H → ∃ vs, SqL K H a vs ∧ All2 (E.P H) vs xs) → SqAt E F (.ref a) xs
  | tup {a : Addr} {xs : List α} : (∀ H, Holds F H → ∃ vs, SqT K H a vs ∧ All2 (E.P H) vs xs) → SqAt E F (.ref a) xs
theorem SqAt.sub (s : Sub L F) (h : SqAt E F v xs) : SqAt E L v xs := by
  cases h with
  | lst h => exact .lst fun H z => h H (s.to z)
  | tup h => exact .tup fun H z => h H (s.to z)
theorem sqAt_ls (t : Take (ls E l xs) L R) : SqAt E L (.ref l) xs := .lst fun H h => by
  obtain ⟨vs, h1, h2⟩ := t.ls h
  exact ⟨vs, SqL.of h1, h2⟩
theorem sqAt_kT (t : Take (vl (kT E) (.ref a) xs) L R) : SqAt E L (.ref a) xs := .tup fun H h => by
  obtain ⟨b, vs, e, h1, h2⟩ := t.vl h
  cases e
  exact ⟨vs, SqT.of h1, h2⟩
theorem c_lenSq (h : SqAt E L v xs) (q : Ent L (Q (.int xs.length))) : Ent L fun H => rLenK K [v] H Q := fun H z => by
  cases h with
  | lst h => obtain ⟨vs, h1, h2⟩ := h H z; exact ⟨_, vs, rfl, .inl h1, by rw [h2.len]; exact q H z⟩
  | tup h => obtain ⟨vs, h1, h2⟩ := h H z; exact ⟨_, vs, rfl, .inr h1, by rw [h2.len]; exact q H z⟩
theorem c_listSq (h : SqAt E L v xs) (q : ∀ p, Ent (ls E p xs :: L) (Q (.ref p))) : Ent L fun H => rListK K [v] H Q := fun H z => by
  cases h with
  | lst h => obtain ⟨vs, h1, h2⟩ := h H z; exact ⟨_, vs, rfl, .inl h1, fun p np => q p _ (z.ls_new np h2)⟩
  | tup h => obtain ⟨vs, h1, h2⟩ := h H z; exact ⟨_, vs, rfl, .inr h1, fun p np => q p _ (z.ls_new np h2)⟩
def iSeq (K : PySem.W.Frag) (te : TE) : TI := fun σ H R => iList K te σ H R ∨ iTup K te σ H R
theorem pi_seq {X : Cx} {tg l : Expr} {tl : TE} (hl : PE X l tl) (hK : X.K = K := by rfl) : PI X tg l (iSeq K tl) := by
  subst hK
  exact ⟨fun pins s σ H R I h => h.elim ((pi_list hl).run pins s σ H R I) ((pi_tup hl).run pins s σ H R I)⟩
/-- what is asked of the walked thing, once its value is known -/
def kLcS (K : PySem.W.Frag) (v : V) (g : TG) (tt : TT) (te : TE) (vs : List Nat) : TE := tLc (iSeq K (tC v)) g tt te vs
theorem e_lcSv {i : Nat} {g : TG} {tt : TT} {vs : List Nat} (h : σ[i]? = some (some v)) (q : Ent L fun H => kLcS K v g tt te vs σ H Q) : Ent L fun H => tLc (iSeq K (tVar i)) g tt te vs σ H Q := fun H z => by
  rcases q H z with h1 | h1
  · exact .inl ⟨v, h, h1⟩
  · exact .inr ⟨v, h, h1⟩
theorem walk_sq (he : ∀ H, Holds L H → ∃ vs, SqL K H a vs ∧ All2 (E.P H) vs xs) : Walk (Itl K a) xs.length (fun H => ∃ vs, SqL K H a vs ∧ All2 (E.P H) vs xs) (fun i H x H' => H' = H ∧ ∃ e, xs[i]? = some e ∧ E.P H x e) :=
  ⟨fun i H hi ⟨vs, h1, h2⟩ => by
    obtain ⟨v, hv, _⟩ := h2.getR (List.getElem?_eq_getElem hi)
    exact ⟨vs, v, h1, hv⟩, fun H ⟨vs, h1, h2⟩ => ⟨vs, h1, Nat.le_of_eq h2.len⟩, fun i H x H' hi ⟨vs, h1, h2⟩ ⟨e, y⟩ => ⟨e, h2.get (y vs h1)⟩⟩
theorem walk_sqT : Walk (Itt K a) xs.length (fun H => ∃ vs, SqT K H a vs ∧ All2 (E.P H) vs xs) (fun i H x H' => H' = H ∧ ∃ e, xs[i]? = some e ∧ E.P H x e) :=
  ⟨fun i H hi ⟨vs, h1, h2⟩ => by
    obtain ⟨v, hv, _⟩ := h2.getR (List.getElem?_eq_getElem hi)
    exact ⟨vs, v, h1, hv⟩, fun H ⟨vs, h1, h2⟩ => ⟨vs, h1, Nat.le_of_eq h2.len⟩, fun i H x H' hi ⟨vs, h1, h2⟩ ⟨e, y⟩ => ⟨e, h2.get (y vs h1)⟩⟩
theorem lcSq_core {J : It} {G : Hp → Prop} {bd : α → (Option β → Prop) → Prop} {k : List β → Prop} {g : TG} {tt : TT} {vs : List Nat} (E' : El K β) (w : Walk J xs.length G (fun i H x H' => H' = H ∧ ∃ e, xs[i]? = some e ∧ E.P H x e)) (hG : ∀ H, Holds L H → G H) (hm : grd (xs.length ≤ 100000) (lcL xs [] bd k))
    (step : ∀ x (nxt : Option β → Prop), bd x nxt → ∀ v D ys (r : VK) (s : Hp → Prop), (∀ v' y, nxt (some y) → Ent (vl E' v' y :: ls E' D ys :: L) (r v')) → (nxt none → Ent (ls E' D ys :: L) s) → Ent (vl E v x :: ls E' D ys :: L) fun H => g v (wipe σ vs) H fun σ2 H2 => wipe σ2 vs = wipe σ vs ∧ tt σ2 H2 fun b H3 => if b = true then te σ2 H3 r else s H3)
    (q : ∀ ys, k ys → ∀ D, Ent (ls E' D ys :: L) (Q (.ref D))) (h : Holds L H) : ∀ D, H D = none → ∃ W : Nat → Nat → Hp → Prop, (∃ m, W 0 m (upd H D (.lst []))) ∧ ∀ i m H, W i m H → (J.stop i H ∧ Q (.ref D) H) ∨ (J.go i H ∧ ∃ Nx : Hp → Prop, (∀ H', Nx H' → ∃ m', m' < m ∧ W (i + 1) m' H') ∧ ∀ x H', J.yld i H x H' → g x (wipe σ vs) H' fun σ2 H2 => wipe σ2 vs = wipe σ vs ∧ tt σ2 H2 fun b H3 =>
      if b = true then te σ2 H3 fun y H4 => ∃ acc, H4 D = some (.lst acc) ∧ acc.length < sizeLine ∧ Nx (upd H4 D (.lst (acc ++ [y]))) else Nx H3) := fun D nD => by
  obtain ⟨hz, hm⟩ := hm
  refine lc_it w (fun i H' => ∃ ys, lcL (xs.drop i) ys bd k ∧ i ≤ xs.length ∧ ys.length ≤ i ∧ Holds (ls E' D ys :: L) H') ⟨[], hm, Nat.zero_le _, Nat.le_refl _, h.ls_new nD .nil⟩ (fun i H' _ ⟨ys, _, _, _, p⟩ => hG H' (Sub.to (Sub.drop Sub.refl) p)) (fun i v H' H'' hi ⟨ys, hf, _, hy, p⟩ ⟨e, x, hx, hp⟩ => ?_) (fun H' ⟨ys, hf, _, _, p⟩ => q ys (by rw [List.drop_length] at hf; exact hf) D H' p)
  subst e
  have ed : xs.drop i = x :: xs.drop (i + 1) := by
    rw [List.drop_eq_getElem_cons hi]
    congr 1
    exact Option.some.inj ((List.getElem?_eq_getElem hi).symm.trans hx)
  rw [ed, lcL] at hf
  refine step x _ hf v D ys _ _ (fun v' y hy' H4 z => ?_) (fun hn H3 z => ?_) _ (p.vl hp)
  · obtain ⟨ac, z1, z2⟩ := Holds.ls_op (Sub.to (Sub.drop Sub.refl) z)
    have z3 : E'.P H4 v' y := Take.vl take_here z
    refine ⟨ac, z1.pt_get, ?_, ys ++ [y], hy', hi, by simp; omega, Holds.ls_upd (Sub.to (Sub.drop Sub.refl) z) (z2.app (.one z3))⟩
    rw [z2.len]
    exact Nat.lt_of_le_of_lt (by omega : ys.length ≤ 100000) (by decide : 100000 < sizeLine)
  · exact ⟨ys, by simpa using hn, hi, by omega, z⟩
theorem c_lcSq {bd : α → (Option β → Prop) → Prop} {k : List β → Prop} {g : TG} {tt : TT} {vs : List Nat} (E' : El K β) (hm : grd (xs.length ≤ 100000) (lcL xs [] bd k)) (t : SqAt E L v xs)
    (step : ∀ x (nxt : Option β → Prop), bd x nxt → ∀ v D ys (r : VK) (s : Hp → Prop), (∀ v' y, nxt (some y) → Ent (vl E' v' y :: ls E' D ys :: L) (r v')) → (nxt none → Ent (ls E' D ys :: L) s) → Ent (vl E v x :: ls E' D ys :: L) fun H => g v (wipe σ vs) H fun σ2 H2 => wipe σ2 vs = wipe σ vs ∧ tt σ2 H2 fun b H3 => if b = true then te σ2 H3 r else s H3)
    (q : ∀ ys, k ys → ∀ D, Ent (ls E' D ys :: L) (Q (.ref D))) : Ent L fun H => kLcS K v g tt te vs σ H Q := fun H h => by
  cases t with
  | lst t =>
    obtain ⟨ws, h1, _⟩ := t H h
    exact .inl ⟨_, rfl, ⟨ws, h1⟩, lcSq_core E' (walk_sq t) t hm step q h⟩
  | tup t =>
    obtain ⟨ws, h1, _⟩ := t H h
    exact .inr ⟨_, rfl, ⟨ws, h1⟩, lcSq_core E' walk_sqT t hm step q h⟩
theorem c_isList {X : XK} (h : SqAt E L v xs) (q : Ent L (Q (.bl true))) : Ent L fun H => spList K [v] H Q X := fun H z => by
  cases h with
  | lst h =>
    obtain ⟨vs, h1, _⟩ := h H z
    exact ⟨_, .type "list", true, rfl, ty_sqL h1, kitAny_cons (b := true) (kit_ty (by decide +kernel)) (fun z => by cases z) (fun _ => rfl), fun H' s => q H' (z.same s)⟩
  | tup h =>
    obtain ⟨vs, h1, _⟩ := h H z
    exact ⟨_, .type "tuple", true, rfl, ty_sqT h1, kitAny_cons (b := false) (kit_ty (by decide +kernel)) (fun _ => kitAny_cons (b := true) (kit_ty (by decide +kernel)) (fun z => by cases z) (fun _ => rfl)) (fun z => by cases z), fun H' s => q H' (z.same s)⟩
theorem c_all {bs : List Bool} (t : Take (ls (kB (K := K)) l bs) L R) (q : Ent L (Q (.bl (bs.all id)))) : Ent L fun H => rAll K [.ref l] H Q := fun H h => by
  obtain ⟨vs, h1, h2⟩ := t.ls h
  have e : vs = bs.map V.bl := by
    clear h1 q t
    induction h2 with
    | nil => rfl
    | cons h _ ih => rw [List.map_cons, ← ih]; exact congrArg (· :: _) h
  subst e
  exact ⟨l, bs, rfl, SqL.of h1, q H h⟩
end
/-! repr of plain values, texts compared -/
class ElR {K : PySem.W.Frag} {α : Type} (E : El K α) : Prop where
  r : ∀ H v x, E.P H v x → (E.d x).showable = true → (E.d x).shown.length ≤ sizeLine → okS v ∧ shV v = (E.d x).shown
section
variable {K : PySem.W.Frag} {α : Type} {L R : List HA} {Q : VK} {v : V}
instance : ElR (kI (K := K)) := ⟨fun H v x h s _ => by
  have h : v = .int x := h
  subst h
  exact ⟨by show x.natAbs.log2 < 1920; simpa [kI, PyData.showable] using s, by simp [kI, shV, PyData.shown]⟩⟩
instance : ElR (kB (K := K)) := ⟨fun H v x h s _ => by
  have h : v = .bl x := h
  subst h
  exact ⟨trivial, by simp [kB, shV, PyData.shown]⟩⟩
instance : ElR (kN (K := K)) := ⟨fun H v x h s _ => by
  have h : v = .non := h
  subst h
  exact ⟨trivial, by simp [kN, shV, PyData.shown]⟩⟩
instance {E : El K α} [r : ElR E] : ElR (kO E) := ⟨fun H v x h s l => by
  cases x with
  | none =>
    have h : v = .non := h
    subst h
    exact ⟨trivial, by simp [kO, optD, shV, PyData.shown]⟩
  | some y => exact r.r H v y h s l⟩
theorem c_reprS {E : El K α} {x : α} {D : PyData} {k : Prop} (hm : grd (Shw D) k) (h : Is E L v x) (e : E.d x = D) (n : ElR E) (q : k → Ent L (Q (.str D.shown))) : Ent L fun H => rReprS [v] H Q := fun H z => by
  subst e
  obtain ⟨h1, h2⟩ := n.r H v x (h H z) hm.1.sh hm.1.ln
  exact ⟨v, rfl, h1, by rw [h2]; exact q hm.2 H z⟩
theorem c_reprD {a : Addr} {C : Ct K α} {x : α} {D : PyData} {k : Prop} (hm : grd (Shw D) k) (h : IsC C L (.ref a) x) (e : C.d x = D) (q : k → Ent L (Q (.str D.shown))) : Ent L fun H => rReprC C [.ref a] H Q := by
  subst e
  exact c_repr hm h q
theorem dec_vstr (a b : Str) : decide (V.str a = V.str b) = decide (a = b) := by
  by_cases h : a = b
  · subst h; simp
  · rw [decide_eq_false h, decide_eq_false fun z => h (V.str.inj z)]
theorem e_eqSS {a b : Str} (q : Ent L fun H => Q (.bl (decide (a = b))) H) : Ent L fun H => rEq (.str a) (.str b) H Q := fun H k => ⟨rfl, by rw [dec_vstr]; exact q H k⟩
theorem e_neSS {a b : Str} (q : Ent L fun H => Q (.bl (!decide (a = b))) H) : Ent L fun H => rNe (.str a) (.str b) H Q := fun H k => ⟨rfl, by rw [dec_vstr]; exact q H k⟩
theorem dec_vbl (a b : Bool) : decide (V.bl a = V.bl b) = decide (a = b) := by cases a <;> cases b <;> simp
theorem e_eqBB {a b : Bool} (q : Ent L fun H => Q (.bl (decide (a = b))) H) : Ent L fun H => rEq (.bl a) (.bl b) H Q := fun H k => ⟨rfl, by rw [dec_vbl]; exact q H k⟩
theorem e_neBB {a b : Bool} (q : Ent L fun H => Q (.bl (!decide (a = b))) H) : Ent L fun H => rNe (.bl a) (.bl b) H Q := fun H k => ⟨rfl, by rw [dec_vbl]; exact q H k⟩
theorem gdeep {A : Around} {env : Env} (h : A.guards = some []) : (A.deeper env).guards = some [] := by first | exact h | simpa [Around.deeper] using h
theorem e_shrC {C : Int → Int → Prop} {g : Int → Int → V} {i j : Int} (h : C i j) (q : Ent L fun H => Q (g i j) H) : Ent L fun H => rI C g (.int i) (.int j) H Q := e_I h q
end
/-! ## how long a repr may be -/
structure Szd (w n : Nat) (d : PyData) : Prop where
  sh : d.showable = true
  nd : d.hasDict = false
  lv : d.leavesShort 13 = true
  we : d.weight ≤ w
  dp : d.depth ≤ n
structure SzdA (w n : Nat) (ds : List PyData) : Prop where
  sh : PyData.showableAll ds = true
  nd : PyData.hasDictAll ds = false
  lv : PyData.leavesShortAll 13 ds = true
  we : PyData.weightAll ds ≤ w
  dp : PyData.depthAll ds ≤ n
theorem Szd.mono {w n w' n' : Nat} {d : PyData} (h : Szd w n d) (hw : w ≤ w' := by omega) (hn : n ≤ n' := by omega) : Szd w' n' d := ⟨h.sh, h.nd, h.lv, Nat.le_trans h.we hw, Nat.le_trans h.dp hn⟩
theorem szdA_of {w n : Nat} : ∀ ds : List PyData, (∀ d ∈ ds, Szd w n d) → SzdA ((w + 1) * ds.length) n ds
  | [], _ => ⟨rfl, rfl, rfl, Nat.zero_le _, Nat.zero_le _⟩
  | d :: ds, h => by
    have a := h d List.mem_cons_self
    have b := szdA_of ds fun x hx => h x (List.mem_cons_of_mem _ hx)
    refine ⟨by simp [PyData.showableAll, a.sh, b.sh], by simp [PyData.hasDictAll, a.nd, b.nd], by simp [PyData.leavesShortAll, a.lv, b.lv], ?_, ?_⟩
    · have h1 := a.we
      have h2 := b.we
      simp only [PyData.weightAll, List.length_cons, Nat.mul_add]
      omega
    · have h1 := a.dp
      have h2 := b.dp
      simp only [PyData.depthAll]
      omega
theorem szd_list {w n : Nat} {ds : List PyData} (h : ∀ d ∈ ds, Szd w n d) : Szd ((w + 1) * ds.length) (n + 1) (.list ds) := by
  have b := szdA_of ds h
  exact ⟨by rw [PyData.showable]; exact b.sh, by rw [PyData.hasDict]; exact b.nd, by rw [PyData.leavesShort]; exact b.lv, by rw [PyData.weight]; exact b.we, by rw [PyData.depth]; exact Nat.add_le_add_right b.dp 1⟩
theorem szd_tuple {w n : Nat} {ds : List PyData} (h : ∀ d ∈ ds, Szd w n d) : Szd ((w + 1) * ds.length) (n + 1) (.tuple ds) := by
  have b := szdA_of ds h
  exact ⟨by rw [PyData.showable]; exact b.sh, by rw [PyData.hasDict]; exact b.nd, by rw [PyData.leavesShort]; exact b.lv, by rw [PyData.weight]; exact b.we, by rw [PyData.depth]; exact Nat.add_le_add_right b.dp 1⟩
theorem szd_int {i : Int} (h : i.natAbs < 10 ^ 12) : Szd 41 0 (.int i) := by
  have l : i.natAbs.log2 < 40 := by
    by_cases z : i.natAbs = 0
    · rw [z]; decide
    · rw [Nat.log2_lt z]
      exact Nat.lt_of_lt_of_le h (by decide)
  refine ⟨by rw [PyData.showable]; exact decide_eq_true (by omega), rfl, by rw [PyData.leavesShort]; exact decide_eq_true (PyData.shown_int_le h), ?_, by simp [PyData.depth]⟩
  rw [PyData.weight]
  split <;> omega
theorem szd_bool {b : Bool} : Szd 0 0 (.bool b) := ⟨rfl, rfl, rfl, by simp [PyData.weight], by simp [PyData.depth]⟩
theorem szd_none : Szd 0 0 .none := ⟨rfl, rfl, rfl, by simp [PyData.weight], by simp [PyData.depth]⟩
theorem Szd.shw {w n : Nat} {d : PyData} (h : Szd w n d) (hw : w ≤ 1048576) (hn : n ≤ 60) : Shw d := ⟨h.sh, Nat.le_trans h.dp hn, h.nd, PyData.shown_fits (B := 13) (by decide) (by decide) h.lv (Nat.le_trans h.we (by simpa using hw))⟩
theorem shw_ints {ns : List Int} (h : ∀ n ∈ ns, n.natAbs < 10 ^ 12) (hl : ns.length ≤ 20000) : Shw (.list (ns.map fun z => (.int z))) := by
  refine (szd_list (w := 41) (n := 0) fun d hd => ?_).shw (by rw [List.length_map]; omega) (by omega)
  obtain ⟨n, hn, rfl⟩ := List.mem_map.mp hd
  exact szd_int (h n hn)
theorem shw_bools {bs : List Bool} (hl : bs.length ≤ 20000) : Shw (.list (bs.map fun z => (.bool z))) := by
  refine (szd_list (w := 0) (n := 0) fun d hd => ?_).shw (by rw [List.length_map]; omega) (by omega)
  obtain ⟨n, hn, rfl⟩ := List.mem_map.mp hd
  exact szd_bool
end Toy
namespace Toy
open PySem L2 PySem.Spec PyProof.Rows
/-! ## written dicts of the top, with text keys -/
def dlk {α : Type} (T : List (Str × α)) (x : Str) : Option α := (T.find? fun p => decide (p.1 = x)).map (·.2)
def KDc (K : PySem.W.Frag) (w : World) (a : Addr) {α : Type} (f : α → V) (T : List (Str × α)) : Prop :=
  ∀ x v, dlk T x = some v → ∃ es n u, KDict K w a es n ∧ PySem.W.nsIn K a x = some (some u) ∧ RelV (f v) u
theorem dlk_mem {α : Type} {T : List (Str × α)} {x : Str} {v : α} (h : dlk T x = some v) : (x, v) ∈ T := by
  obtain ⟨p, h1, h2⟩ := Option.map_eq_some_iff.mp h
  have := List.find?_some h1
  have e : p.1 = x := of_decide_eq_true this
  rw [← e, ← h2]
  exact List.mem_of_find?_eq_some h1
theorem kdc_of {K : PySem.W.Frag} {w : World} {a : Addr} {α : Type} {f : α → V} {T : List (Str × α)} (h : ∃ es n, KDict K w a es n) (hn : ∀ p ∈ T, ∃ u, PySem.W.nsIn K a p.1 = some (some u) ∧ RelV (f p.2) u) : KDc K w a f T := fun x v hx => by
  obtain ⟨es, n, d⟩ := h
  obtain ⟨u, e, r⟩ := hn _ (dlk_mem hx)
  exact ⟨es, n, u, d, e, r⟩
def rInD (K : PySem.W.Frag) (w : World) : R2 := fun x y H Q => ∃ z d es n u, x = .str z ∧ y = .ref d ∧ KDict K w d es n ∧ PySem.W.nsIn K d z = some (some u) ∧ Q (.bl true) H
def rNiD (K : PySem.W.Frag) (w : World) : R2 := fun x y H Q => ∃ z d es n u, x = .str z ∧ y = .ref d ∧ KDict K w d es n ∧ PySem.W.nsIn K d z = some (some u) ∧ Q (.bl false) H
section
variable {X : Cx} {K : PySem.W.Frag} {w : World}
theorem ixKD (hK : X.K = K := by rfl) (hw : X.w = w := by rfl) : IxR X (rIxD K w) := by subst hK hw; exact ix_kdict
theorem inKD (hK : X.K = K := by rfl) (hw : X.w = w := by rfl) : OpR X (compareOp .In) (rInD K w) := by
  subst hK hw
  intro pins s σ H x y v u Q I rx ry h
  obtain ⟨z, d, es, n, u0, e1, e2, D, e, q⟩ := h
  exact op_in_kd D pins s σ H x y v u Q I rx ry ⟨z, _, e1, e2, e, q⟩
theorem niKD (hK : X.K = K := by rfl) (hw : X.w = w := by rfl) : OpR X (compareOp .NotIn) (rNiD K w) := by
  subst hK hw
  intro pins s σ H x y v u Q I rx ry h
  obtain ⟨z, d, es, n, u0, e1, e2, D, e, q⟩ := h
  exact op_notIn_kd D pins s σ H x y v u Q I rx ry ⟨z, _, e1, e2, e, q⟩
end
section
variable {K : PySem.W.Frag} {w : World} {α : Type} {L R : List HA} {Q : VK} {f : α → V} {T : List (Str × α)} {a l : Addr} {x : Str}
theorem c_ixD {k : α → Prop} (hm : obx (dlk T x) k) (d : KDc K w a f T) (q : ∀ v, k v → Ent L (Q (f v))) : Ent L fun H => rIxD K w (.ref a) (.str x) H Q := fun H h => by
  obtain ⟨v, e, hk⟩ := hm
  obtain ⟨es, n, u, D, e2, r⟩ := d x v e
  exact ⟨a, x, f v, rfl, rfl, ⟨es, n, u, D.at_, D.lit, e2, r⟩, q v hk H h⟩
theorem c_inD {k : Prop} (hm : grd ((dlk T x).isSome = true) k) (d : KDc K w a f T) (q : k → Ent L (Q (.bl true))) : Ent L fun H => rInD K w (.str x) (.ref a) H Q := fun H h => by
  obtain ⟨v, e⟩ := Option.isSome_iff_exists.mp hm.1
  obtain ⟨es, n, u, D, e2, r⟩ := d x v e
  exact ⟨x, a, es, n, u, rfl, rfl, D, e2, q hm.2 H h⟩
theorem c_niD {k : Prop} (hm : grd ((dlk T x).isSome = true) k) (d : KDc K w a f T) (q : k → Ent L (Q (.bl false))) : Ent L fun H => rNiD K w (.str x) (.ref a) H Q := fun H h => by
  obtain ⟨v, e⟩ := Option.isSome_iff_exists.mp hm.1
  obtain ⟨es, n, u, D, e2, r⟩ := d x v e
  exact ⟨x, a, es, n, u, rfl, rfl, D, e2, q hm.2 H h⟩
/-! ## list.index of texts -/
def ixof {α : Type} [DecidableEq α] (xs : List α) (y : α) : Option Nat := xs.findIdx? fun z => decide (z = y)
theorem mtIndexK {X : Cx} (hK : X.K = K := by rfl) : MtR X "list.index" (rIndex K) := by subst hK; exact mt_index
theorem strs_of {xs : List Str} {vs : List V} {H : Hp} (h : All2 ((kSt (K := K)).P H) vs xs) : vs = xs.map V.str := by
  induction h with
  | nil => rfl
  | cons h _ ih =>
    obtain ⟨rfl, _⟩ := h
    rw [ih]; rfl
theorem c_indexS {xs : List Str} {k : Nat → Prop} (hm : obx (ixof xs x) k) (t : Take (ls (kSt (K := K)) l xs) L R) (q : ∀ j : Nat, k j → Ent L (Q (.int j))) : Ent L fun H => rIndex K (.ref l) [.str x] H Q := fun H h => by
  obtain ⟨j, e, hk⟩ := hm
  obtain ⟨vs, h1, h2⟩ := t.ls h
  obtain rfl := strs_of h2
  obtain ⟨hj, hp, hn⟩ := List.findIdx?_eq_some_iff_getElem.mp e
  refine ⟨l, xs.map V.str, .str x, j, .str x, rfl, rfl, SqL.of h1, rfl, ?_, ?_, ?_, ?_, q j hk H h⟩
  · simp [List.all_map, Function.comp_def, flatV]
  · rw [List.getElem?_map, List.getElem?_eq_getElem hj]
    simp only [decide_eq_true_eq] at hp
    rw [hp]; rfl
  · simp [eqV]
  · intro m z' hmj hz
    rw [List.getElem?_map, List.getElem?_eq_getElem (by omega)] at hz
    have := hn m hmj
    simp only [decide_eq_true_eq] at this
    obtain rfl := (Option.some.inj hz).symm
    simp [eqV, this]
/-! ## isinstance -/
theorem ty_I {L : List HA} (n : Int) : ∀ H, Holds L H → TyX K H (.int n) (.type "int") := fun _ _ => .base (.int n)
theorem ty_B {L : List HA} (b : Bool) : ∀ H, Holds L H → TyX K H (.bl b) (.type "bool") := fun _ _ => .base (.bl b)
theorem ty_S {L : List HA} (x : Str) : ∀ H, Holds L H → TyX K H (.str x) (.type "str") := fun _ _ => .base (.str x)
theorem e_exb {b : Bool} {φ : Hp → Prop} (q : Ent L φ) : Ent L fun H => ∃ c, V.bl b = .bl c ∧ φ H := fun H h => ⟨b, rfl, q H h⟩
end
end Toy

open PySem L2 Toy in
local macro_rules | `(tactic| walk_at "whl") => `(tactic| first | assumption | exact upd_same | (refine' (upd_ne ?h1).trans ?h2; (case h1 => walk_at "ne"); (case h2 => walk_at "whl")) | (refine' (show Same _ _ by assumption) _ _ ?h1; (case h1 => walk_at "whl")) | (refine' (show Chg _ _ _ by assumption) _ _ ?h1 ?h2; (case h1 => walk_at "whl"); (case h2 => walk_at "ne")))
open PySem L2 Toy in
local macro_rules | `(tactic| walk_at "ne") => `(tactic| first | assumption | (apply Ne.symm; assumption) | (refine' ne_of_none ?h1 ?h2; (case h2 => assumption); (case h1 => walk_at "whl")) | (apply Ne.symm; refine' ne_of_none ?h1 ?h2; (case h2 => assumption); (case h1 => walk_at "whl")) | (refine' ne_of ?h1 ?h2 ?h3; (case h1 => walk_at "whl"); (case h2 => walk_at "whl"); (case h3 => intro z; cases z)))
open PySem L2 Toy in
local macro_rules | `(tactic| walk_at "wsq") => `(tactic| first | assumption | (refine' SqL.of ?h1; (case h1 => walk_at "whl")) | (refine' SqT.of ?h1; (case h1 => walk_at "whl")) | exact Same.seq (by assumption) (by assumption) | exact same_seqT (by assumption) (by assumption))
open PySem L2 Toy in
local macro_rules | `(tactic| walk_at "si") => `(tactic| first | omega | assumption | decide | (refine ⟨?_, ?_⟩ <;> omega) | exact Or.inl ⟨by omega, by omega⟩ | exact Or.inr ⟨by omega, by omega⟩ | exact ⟨by omega, by omega, by omega⟩ | exact ⟨by decide, by decide, by decide⟩)
open PySem L2 Toy in
local macro_rules | `(tactic| walk_at "wst") => `(tactic| first
  | with_reducible first
    | refine w_seq ?_ | refine w_c ?_ | refine w_op ?_ | refine w_un ?_ | refine w_I0 ?_ | refine w_U ?_ | refine w_cb ?_ | refine w_cons ?_ | refine w_nil ?_ | refine w_call ?_ | refine w_tup ?_ | refine w_lst ?_
    | refine w_asg ?_ | refine w_gname ?_ | refine w_ret ?_ | refine w_drop ?_ | refine w_ifs ?_ | refine w_if0 ?_ | refine w_test ?_ | refine w_B ?_ | refine w_not ?_ | refine w_andV ?_ | refine w_orV ?_ | refine w_notV ?_ | refine w_bl ?_
    | refine w_next ?_ | refine w_brk ?_ | refine w_cont ?_ | refine w_retN ?_ | refine w_fld0 ?_ | refine w_sfld0 ?_ | refine w_meth0 ?_ | refine w_prop0 ?_ | refine w_make ?_ | refine w_par ?_ | refine w_vw ?_ | refine w_gsub ?_ | refine w_gcons ?_ | refine w_gnil ?_
    | refine w_iI ?_ | refine w_iIJ ?_ | refine w_int1 ?_ | refine iteT ?_ | refine iteF ?_ | refine w_methSx0 ?_ | refine w_methN0 ?_ | refine w_callN ?_ | refine w_callS ?_ | refine w_yes ?_ | refine w_mko0 ?_ | refine w_makeK ?_ | refine w_chain ?_ | refine w_sl ?_ | refine w_nopart ?_ | refine w_part ?_ | refine w_ei ?_ | refine w_rev0 ?_ | refine w_forZ ?_ | refine w_forE ?_ | refine w_lcZ ?_ | refine w_lcE ?_ | refine w_bm ?_ | refine w_bm0 ?_ | refine w_forR1 ?_ | refine w_forL ?_ | refine w_forT ?_ | refine iteNT ?_ | refine iteNF ?_ | refine w_lstRg ?_ | refine w_tupRg ?_ | refine w_rg1 ?_ | refine w_rg2 ?_ | refine w_eij ?_
  | ((with_reducible refine' w_var ?h ?_); (case h => rfl))
  | ((with_reducible refine' w_I ?h ?_); (case h => walk_at "si"))
  | ((with_reducible refine' w_ixL ?h ?g ?_); (case h => walk_at "wsq"); (case g => first | rfl | assumption))
  | ((with_reducible refine' w_ixT ?h ?g ?_); (case h => walk_at "wsq"); (case g => first | rfl | assumption))
  | ((with_reducible refine' w_setL ?h ?g ?_); (case h => walk_at "whl"); (case g => first | rfl | assumption))
  | ((with_reducible refine' w_gtup ?h ?g ?_); (case h => walk_at "wsq"); (case g => rfl))
  | ((with_reducible refine' w_lenL ?h ?_); (case h => walk_at "wsq"))
  | ((with_reducible refine' w_lenT ?h ?_); (case h => walk_at "wsq"))
  | ((with_reducible refine' w_eq ?h ?_); (case h => rfl))
  | ((with_reducible refine' w_ne ?h ?_); (case h => rfl))
  | ((with_reducible refine' w_ea ?h ?_); (case h => rfl))
  | ((with_reducible refine' w_ln ?h ?_); (case h => rfl))
  | ((with_reducible refine' w_fld ?h ?c ?n ?l ?_); (case h => walk_at "whl"); (case c => walk_at "cls"); (case n => walk_at "nat"); (case l => rfl))
  | ((with_reducible refine' w_sfld ?h ?c ?n ?l ?e ?_); (case h => walk_at "whl"); (case c => walk_at "cls"); (case n => walk_at "nat"); (case l => exact Nat.le_of_ble_eq_true rfl); (case e => rfl))
  | ((with_reducible refine' w_meth ?h ?l ?_); (case h => walk_at "whl"); (case l => rfl))
  | ((with_reducible refine' w_prop ?h ?_); (case h => walk_at "whl"))
  | ((with_reducible refine' w_tyL ?h ?_); (case h => walk_at "wsq"))
  | ((with_reducible refine' w_app ?h ?z ?_); (case h => walk_at "whl"); (case z => first | omega | (simp; omega) | simp))
  | ((with_reducible refine' w_cat ?h ?g ?z ?_); (case h => walk_at "whl"); (case g => walk_at "whl"); (case z => first | omega | (simp; omega) | simp))
  | ((with_reducible refine' w_zip ?h ?g ?_); (case h => walk_at "wsq"); (case g => walk_at "wsq"))
  | ((with_reducible refine' w_enum ?h ?_); (case h => walk_at "wsq"))
  | ((with_reducible refine' w_slL ?h ?_); (case h => walk_at "wsq"))
  | ((with_reducible refine' w_rev ?h ?_); (case h => walk_at "wsq"))
  | ((with_reducible refine' w_rep ?h ?a ?b ?z ?_); (case h => walk_at "whl"); (case a => omega); (case b => omega); (case z => first | omega | exact Nat.le_of_ble_eq_true rfl | (simp; omega)))
  | ((with_reducible refine' w_rgok ?h ?_); (case h => omega))
  | ((with_reducible refine' w_laid ?h ?_); (case h => simp)))
open PySem L2 Toy in
local macro_rules | `(tactic| walk_at "frOld") => `(tactic| with_reducible first | exact take_here | exact (take_there take_here) | exact (take_there (take_there take_here)) | exact (take_there (take_there (take_there take_here))) | exact (take_there (take_there (take_there (take_there take_here)))) | exact (take_there (take_there (take_there (take_there (take_there take_here))))) | exact (take_there (take_there (take_there (take_there (take_there (take_there take_here)))))) | exact (take_there (take_there (take_there (take_there (take_there (take_there (take_there take_here))))))) | exact (take_there (take_there (take_there (take_there (take_there (take_there (take_there (take_there take_here)))))))) | exact (take_there (take_there (take_there (take_there (take_there (take_there (take_there (take_there (take_there take_here))))))))) | exact (take_there (take_there (take_there (take_there (take_there (take_there (take_there (take_there (take_there (take_there take_here)))))))))) | exact (take_there (take_there (take_there (take_there (take_there (take_there (take_there (take_there (take_there (take_there (take_there take_here))))))))))) | exact (take_there (take_there (take_there (take_there (take_there (take_there (take_there (take_there (take_there (take_there (take_there (take_there take_here)))))))))))) | exact (take_there (take_there (take_there (take_there (take_there (take_there (take_there (take_there (take_there (take_there (take_there (take_there (take_there take_here))))))))))))) | exact (take_there (take_there (take_there (take_there (take_there (take_there (take_there (take_there (take_there (take_there (take_there (take_there (take_there (take_there take_here)))))))))))))) | exact (take_there (take_there (take_there (take_there (take_there (take_there (take_there (take_there (take_there (take_there (take_there (take_there (take_there (take_there (take_there take_here))))))))))))))) | exact (take_there (take_there (take_there (take_there (take_there (take_there (take_there (take_there (take_there (take_there (take_there (take_there (take_there (take_there (take_there (take_there take_here)))))))))))))))) | exact (take_there (take_there (take_there (take_there (take_there (take_there (take_there (take_there (take_there (take_there (take_there (take_there (take_there (take_there (take_there (take_there (take_there take_here))))))))))))))))) | exact (take_there (take_there (take_there (take_there (take_there (take_there (take_there (take_there (take_there (take_there (take_there (take_there (take_there (take_there (take_there (take_there (take_there (take_there take_here)))))))))))))))))) | exact (take_there (take_there (take_there (take_there (take_there (take_there (take_there (take_there (take_there (take_there (take_there (take_there (take_there (take_there (take_there (take_there (take_there (take_there (take_there take_here))))))))))))))))))) | exact (take_there (take_there (take_there (take_there (take_there (take_there (take_there (take_there (take_there (take_there (take_there (take_there (take_there (take_there (take_there (take_there (take_there (take_there (take_there (take_there take_here)))))))))))))))))))) | exact (take_there (take_there (take_there (take_there (take_there (take_there (take_there (take_there (take_there (take_there (take_there (take_there (take_there (take_there (take_there (take_there (take_there (take_there (take_there (take_there (take_there take_here))))))))))))))))))))))
open PySem L2 Toy in
local macro_rules | `(tactic| walk_at "cl") => `(tactic| first | assumption | rfl | omega | trivial | (refine ⟨?_, ?_⟩ <;> walk_at "cl") | (simp; done) | (simp; omega))
open PySem L2 Toy in
local macro_rules | `(tactic| walk_at "dr") => `(tactic| first | with_reducible exact Sub.refl | ((with_reducible refine' Sub.drop ?s); (case s => walk_at "dr")))
open PySem L2 Toy in
local macro_rules | `(tactic| walk_at "sub10") => `(tactic| with_reducible first
  | exact Sub.refl | exact Sub.nil
  | ((refine' Sub.pu ?h ?_); (case h => with_unfolding_all walk_at "cl"))
  | ((refine Sub.all ?_); simp only [List.cons_append, List.nil_append])
  | (refine Sub.ex _ ?_)
  | ((refine' Sub.take (Take.keep ?t) ?_); (case t => walk_at "fr"))
  | ((refine' Sub.take ?t ?_); (case t => walk_at "fr"))
  | ((refine' Sub.take (take_ls0 ?t) ?_); (case t => walk_at "fr"))
  | ((refine' Sub.take (take_eq ?e ?t) ?_); (case t => walk_at "fr"); (case e => with_unfolding_all rfl))
  | ((refine' Sub.take (take_eqLs ?e ?t) ?_); (case t => walk_at "fr"); (case e => with_unfolding_all rfl))
  | ((refine' Sub.take (take_eqVl ?e ?t) ?_); (case t => walk_at "fr"); (case e => with_unfolding_all rfl))
  | walk_at "dr")
open PySem L2 Toy in
local macro_rules | `(tactic| walk_at "sub") => `(tactic| (repeat (walk_at "sub1")); done)
open PySem L2 Toy in
local macro_rules | `(tactic| walk_at "hl") => `(tactic| first | assumption | ((with_reducible refine' hasL_pt ?h); (case h => walk_at "fr")) | ((with_reducible refine' hasL_sq ?h); (case h => walk_at "fr")))
open PySem L2 Toy in
local macro_rules | `(tactic| walk_at "ht") => `(tactic| first | assumption | ((with_reducible refine' hasT_tu ?h); (case h => walk_at "fr")) | ((with_reducible refine' hasT_tq ?h); (case h => walk_at "fr")))
open PySem L2 Toy in
local macro_rules | `(tactic| walk_at "si") => `(tactic| first | omega | assumption | decide | (refine ⟨?_, ?_⟩ <;> omega) | exact Or.inl ⟨by omega, by omega⟩ | exact Or.inr ⟨by omega, by omega⟩ | exact ⟨by omega, by omega, by omega⟩ | exact ⟨by decide, by decide, by decide⟩)
open PySem L2 Toy in
local macro_rules | `(tactic| walk_at "sz") => `(tactic| first | omega | exact Nat.le_of_ble_eq_true rfl | assumption | (simp; done) | (simp; omega))
open PySem L2 Toy in
local macro_rules | `(tactic| walk_at "ix") => `(tactic| first | assumption | exact atI_of (by omega) (by assumption) | exact atI_0 | exact atI_m1 | rfl)
open PySem L2 Toy in
local macro_rules | `(tactic| walk_at "jx") => `(tactic| first | assumption | exact ixN_at (by omega) (by omega) | exact ixN_at (by omega) (by (simp; omega)) | rfl)
open PySem L2 Toy in
local macro_rules | `(tactic| walk_at "vw") => `(tactic| first | rfl | assumption)
open PySem L2 Toy in
local macro_rules | `(tactic| walk_at "el0") => `(tactic| first | exact vl_I | exact vl_v (by walk_at "fr") | exact vl_T (by walk_at "fr") (fun _ h => ⟨_, rfl, h⟩) | exact vl_non)
open PySem L2 Toy in
local macro_rules | `(tactic| walk_at "dt") => `(tactic| first | assumption | omega | (show _ = _; rfl) | decide +kernel)
open PySem L2 Toy in
local macro_rules | `(tactic| walk_at "df") => `(tactic| first | assumption | omega | (intro z; cases z; done) | decide +kernel)
open PySem L2 Toy in
local macro_rules | `(tactic| walk_at "hi") => `(tactic| (refine' hasI_pt ?h ?g; (case h => walk_at "fr"); (case g => rfl)))
open PySem L2 Toy in
local macro_rules | `(tactic| walk_at "sS") => `(tactic| (with_reducible first | refine e_seq ?_ | refine e_asg ?_ | refine e_drop ?_ | refine e_ifs ?_ | refine e_ret ?_ | refine e_next ?_ | refine e_sfld0 ?_ | refine e_par ?_ | refine e_par3 ?_ | refine e_forR1 ?_ | refine e_forL ?_ | refine e_forT ?_ | refine e_forZ ?_ | refine e_forE ?_ | refine e_brk ?_ | refine e_cont ?_ | refine e_retN ?_))
open PySem L2 Toy in
local macro_rules | `(tactic| walk_at "sE") => `(tactic| first
  | ((with_reducible refine' e_var ?h ?_); (case h => rfl)) | (with_reducible first | refine e_c ?_ | refine e_op ?_ | refine e_call1 ?_ | refine e_meth1 ?_ | refine e_fld0 ?_ | refine e_cb ?_ | refine e_un ?_ | refine e_tup ?_ | refine e_lst ?_ | refine e_if0 ?_ | refine e_bm ?_ | refine e_bm0 ?_ | refine e_sl ?_ | refine e_chain ?_ | refine e_make ?_ | refine e_lc0 ?_ | refine e_lcE0 ?_ | refine e_prop0 ?_ | refine e_andV ?_ | refine e_orV ?_ | refine e_notV ?_ | refine e_rev0 ?_ | refine e_lstRg ?_ | refine e_tupRg ?_ | refine e_methN ?_ | refine e_methS ?_ | refine e_callN ?_ | refine e_callS ?_ | refine e_makeK ?_))
open PySem L2 Toy in
local macro_rules | `(tactic| walk_at "sT") => `(tactic| (with_reducible first | refine e_test ?_ | refine e_B ?_ | refine e_not ?_ | refine e_and ?_ | refine e_or ?_ | refine e_yes ?_))
open PySem L2 Toy in
local macro_rules | `(tactic| walk_at "sA") => `(tactic| (with_reducible first | refine e_cons ?_ | refine e_nil ?_))
open PySem L2 Toy in
local macro_rules | `(tactic| walk_at "sG") => `(tactic| first
  | (with_reducible refine e_gname ?_) | ((with_reducible refine' e_gtup ?h ?g ?_); (case h => walk_at "ht"); (case g => rfl)) | with_reducible refine e_gsub ?_)
open PySem L2 Toy in
local macro_rules | `(tactic| walk_at "sR") => `(tactic| first
  | (with_reducible first | refine e_I0 ?_ | refine e_eqII ?_ | refine e_neII ?_ | refine e_neB ?_)
  | ((with_reducible refine' e_I ?h ?_); (case h => walk_at "si"))
  | ((with_reducible refine' e_ixM ?h ?g ?_); (case h => walk_at "hl"); (case g => walk_at "ix"))
  | ((with_reducible refine' e_ixL ?h ?g ?_); (case h => walk_at "hl"); (case g => walk_at "ix"))
  | ((with_reducible refine' e_ixLs ?h ?g fun _ => ?_); (case h => walk_at "fr"); (case g => walk_at "ix"))
  | ((with_reducible refine' e_ixT ?h ?g ?_); (case h => walk_at "ht"); (case g => walk_at "ix"))
  | ((with_reducible refine' e_eq ?h ?_); (case h => rfl))
  | ((with_reducible refine' e_ne ?h ?_); (case h => rfl))
  | ((with_reducible refine' e_catM ?h ?g ?z fun _ => ?_); (case h => walk_at "fr"); (case g => walk_at "fr"); (case z => walk_at "sz"))
  | ((with_reducible refine' e_cat ?h ?g ?z fun _ => ?_); (case h => walk_at "fr"); (case g => walk_at "fr"); (case z => walk_at "sz"))
  | ((with_reducible refine' e_catLs ?h ?g ?z fun _ => ?_); (case h => walk_at "fr"); (case g => walk_at "fr"); (case z => walk_at "sz"))
  | ((with_reducible refine' e_rep ?h ?a ?b ?z fun _ => ?_); (case h => walk_at "fr"); (case a => omega); (case b => omega); (case z => walk_at "sz")))
open PySem L2 Toy in
local macro_rules | `(tactic| walk_at "sC") => `(tactic| first
  | ((with_reducible refine' e_lenL ?h ?_); (case h => walk_at "hl"))
  | ((with_reducible refine' e_lenLs ?h ?_); (case h => walk_at "fr"))
  | ((with_reducible refine' e_lenT ?h ?_); (case h => walk_at "ht"))
  | ((with_reducible refine' e_listOf ?h fun _ => ?_); (case h => walk_at "hl"))
  | ((with_reducible refine' e_listLs ?h fun _ => ?_); (case h => walk_at "fr"))
  | ((with_reducible refine' e_listOfT ?h fun _ => ?_); (case h => walk_at "ht"))
  | ((with_reducible refine' e_tupOf ?h fun _ => ?_); (case h => walk_at "hl"))
  | ((with_reducible refine' e_tupLs ?h fun _ => ?_); (case h => walk_at "fr"))
  | ((with_reducible refine' e_tupOfT ?h ?_); (case h => walk_at "ht"))
  | ((with_reducible refine' e_div ?h fun _ => ?_); (case h => exact ⟨by omega, by omega⟩)))
open PySem L2 Toy in
local macro_rules | `(tactic| walk_at "sM") => `(tactic| first
  | ((with_reducible refine' e_appM ?h ?v ?z ?_); (case h => walk_at "fr"); (case v => walk_at "vw"); (case z => walk_at "sz"))
  | ((with_reducible refine' e_app ?h ?z ?_); (case h => walk_at "fr"); (case z => walk_at "sz"))
  | ((with_reducible refine' e_appLs ?h ?y ?z ?_); (case h => walk_at "fr"); (case y => walk_at "el"); (case z => walk_at "sz"))
  | ((with_reducible refine' e_clear ?h ?_); (case h => walk_at "fr"))
  | ((with_reducible refine' e_clearLs ?h ?_); (case h => walk_at "fr"))
  | ((with_reducible refine' e_ext ?h ?g ?z ?_); (case h => walk_at "fr"); (case g => walk_at "fr"); (case z => walk_at "sz")))
open PySem L2 Toy in
local macro_rules | `(tactic| walk_at "sX") => `(tactic| first
  | (with_reducible first | refine e_bl ?_ | refine e_vw ?_ | refine e_uvw ?_ | refine e_iI ?_ | refine e_iIJ ?_ | refine e_ei ?_ | refine e_eij ?_)
  | ((with_reducible refine' e_methI ?h ?_); (case h => walk_at "hi"))
  | ((with_reducible refine' e_propI ?h ?_); (case h => walk_at "hi")))
open PySem L2 Toy in
local macro_rules | `(tactic| walk_at "sI") => `(tactic| first
  | (with_reducible first | refine eT ?_ | refine eF ?_ | refine eNT ?_ | refine eNF ?_)
  | ((with_reducible refine' eDT ?h ?_); (case h => walk_at "dt"))
  | ((with_reducible refine' eDF ?h ?_); (case h => walk_at "df"))
  | ((with_reducible refine' eNDT ?h ?_); (case h => walk_at "dt"))
  | ((with_reducible refine' eNDF ?h ?_); (case h => walk_at "df")))
open PySem L2 Toy in
local macro_rules | `(tactic| walk_at "sN") => `(tactic| first
  | (with_reducible refine e_rfl ?_) | ((with_reducible refine' e_ea ?h ?_); (case h => rfl)) | ((with_reducible refine' e_ln ?h ?_); (case h => rfl)))
open PySem L2 Toy in
local macro_rules | `(tactic| walk_at "sO") => `(tactic| first
  | (with_reducible first | refine e_U ?_ | refine e_gcons ?_ | refine e_gnil ?_ | refine e_int1 ?_ | refine e_intB ?_ | refine e_nopart ?_ | refine e_part ?_ | refine e_rg1 ?_ | refine e_rg2 ?_ | refine Ent.ex fun _ => ?_ | refine e_new fun _ _ => ?_)
  | ((with_reducible refine' e_tyL ?h ?_); (case h => walk_at "hl"))
  | ((with_reducible refine' e_tyLs ?h ?_); (case h => walk_at "fr"))
  | ((with_reducible refine' e_fld ?h ?c ?n ?l ?_); (case h => walk_at "fr"); (case c => walk_at "cls"); (case n => walk_at "nat"); (case l => rfl))
  | ((with_reducible refine' e_sfld ?h ?c ?n ?l ?e ?_); (case h => walk_at "fr"); (case c => walk_at "cls"); (case n => walk_at "nat"); (case l => exact Nat.le_of_ble_eq_true rfl); (case e => rfl))
  | ((with_reducible refine' e_newT ?h fun _ => ?_); (case h => walk_at "sz"))
  | ((with_reducible refine' e_newL ?h fun _ => ?_); (case h => walk_at "sz"))
  | ((with_reducible refine' e_setM ?h ?v ?g ?_); (case h => walk_at "fr"); (case v => walk_at "vw"); (case g => walk_at "jx"))
  | ((with_reducible refine' e_setL ?h ?g ?_); (case h => walk_at "fr"); (case g => walk_at "jx"))
  | ((with_reducible refine' e_slM ?h fun _ => ?_); (case h => walk_at "hl"))
  | ((with_reducible refine' e_slL ?h fun _ => ?_); (case h => walk_at "hl"))
  | ((with_reducible refine' e_slLs ?h fun _ => ?_); (case h => walk_at "fr"))
  | ((with_reducible refine' e_revM ?h fun _ => ?_); (case h => walk_at "hl"))
  | ((with_reducible refine' e_rev ?h fun _ => ?_); (case h => walk_at "hl"))
  | ((with_reducible refine' e_revLs ?h fun _ => ?_); (case h => walk_at "fr"))
  | ((with_reducible refine' e_rgL ?h fun _ => ?_); (case h => omega))
  | ((with_reducible refine' e_rgT ?h fun _ => ?_); (case h => omega))
  | ((with_reducible refine' e_newK ?h ?g fun _ _ => ?_); (case h => rfl); (case g => rfl)))
open PySem L2 Toy in
local macro_rules | `(tactic| walk_at "st") => `(tactic| first
  | ((with_reducible refine gS ?_); walk_at "sS")
  | ((with_reducible refine gE ?_); walk_at "sE")
  | ((with_reducible refine gT ?_); walk_at "sT")
  | ((with_reducible refine gA ?_); walk_at "sA")
  | ((with_reducible refine gX ?_); walk_at "sX")
  | ((with_reducible refine gI ?_); walk_at "sI")
  | ((with_reducible refine gR ?_); walk_at "sR")
  | ((with_reducible refine gC ?_); walk_at "sC")
  | ((with_reducible refine gM ?_); walk_at "sM")
  | ((with_reducible refine gG ?_); walk_at "sG")
  | ((with_reducible refine gN ?_); walk_at "sN")
  | walk_at "sO")
open PySem L2 Toy in
local macro_rules | `(tactic| walk_at "fr0") => `(tactic| first | (with_reducible exact take_here) | ((with_reducible apply take_there); walk_at "fr0"))
open PySem L2 Toy in
local macro_rules | `(tactic| walk_at "el") => `(tactic| first
  | (with_reducible first | exact is_I | exact is_B | exact is_N | exact is_no)
  | ((with_reducible refine' is_v ?h); (case h => walk_at "fr0"))
  | ((with_reducible refine' is_so ?h); (case h => walk_at "el"))
  | ((with_reducible refine' is_tup ?t ?h); (case t => walk_at "fr0"); (case h => walk_at "els"))
  | ((with_reducible refine' is_ul ?h); (case h => walk_at "el"))
  | ((with_reducible refine' is_ur ?h); (case h => walk_at "el"))
  | ((with_reducible refine' is_St ?h); (case h => decide +kernel)))
open PySem L2 Toy in
local macro_rules | `(tactic| walk_at "els") => `(tactic| first
  | (with_reducible exact is_nil)
  | ((with_reducible refine' is_c1 ?h); (case h => walk_at "el"))
  | ((with_reducible refine' is_c ?h ?g); (case h => walk_at "el"); (case g => walk_at "els")))
open PySem L2 Toy in
local macro_rules | `(tactic| walk_at "as") => `(tactic| first
  | (with_reducible exact isA_nil)
  | ((with_reducible refine' isA_c ?h ?g); (case h => walk_at "el"); (case g => walk_at "as")))
open PySem L2 Toy in
local macro_rules | `(tactic| walk_at "acs") => `(tactic| first
  | (with_reducible exact isA_nil)
  | ((with_reducible refine' isA_c ?h ?g); (case h => walk_at "ct"); (case g => walk_at "acs")))
open PySem L2 Toy in
local macro_rules | `(tactic| walk_at "ct") => `(tactic| first
  | ((with_reducible refine' isC_e ?h); (case h => walk_at "el"))
  | ((with_reducible refine' isC_ls ?h); (case h => walk_at "fr0"))
  | ((with_reducible refine' isC_t ?t ?h); (case t => walk_at "fr0"); (case h => walk_at "cts"))
  | ((with_reducible refine' isC_l ?t ?h); (case t => walk_at "fr0"); (case h => walk_at "acs")))
open PySem L2 Toy in
local macro_rules | `(tactic| walk_at "cts") => `(tactic| first
  | (with_reducible exact isC_n)
  | ((with_reducible refine' isC_c1 ?h); (case h => walk_at "ct"))
  | ((with_reducible refine' isC_c ?h ?g); (case h => walk_at "ct"); (case g => walk_at "cts")))
open PySem L2 Toy in
local macro_rules | `(tactic| walk_at "sub1") => `(tactic| first
  | ((with_reducible refine' Sub.is ?h ?_); (case h => walk_at "el"))
  | walk_at "sub10")
open PySem L2 Toy in
local macro_rules | `(tactic| walk_at "subR1") => `(tactic| first
  | (with_reducible exact Sub.refl)
  | ((with_reducible refine' Sub.is ?h ?m); (case h => walk_at "el"); (case m => walk_at "subR1"))
  | ((with_reducible refine' Sub.take (Take.keep ?t) ?m); (case t => walk_at "fr0"); (case m => walk_at "subR1"))
  | ((with_reducible refine' Sub.take ?t ?m); (case t => walk_at "fr"); (case m => walk_at "subR1"))
  | ((refine' Sub.take (take_eq ?e ?t) ?m); (case t => walk_at "fr0"); (case e => with_unfolding_all rfl); (case m => walk_at "subR1")))
open PySem L2 Toy in
local macro_rules | `(tactic| walk_at "subR") => `(tactic| ((try simp only [List.cons_append, List.nil_append]); walk_at "subR1"))
open PySem L2 Toy in
local macro_rules | `(tactic| walk_at "norm") => `(tactic| try simp only [List.cons_append, List.nil_append, upds, List.set_cons_succ, List.set_cons_zero])
open PySem L2 Toy in
local macro_rules | `(tactic| walk_at "nv") => `(tactic| first
  | (with_reducible first | refine Ent.vI ?_ | refine Ent.vB ?_ | refine Ent.vSt ?_ | refine Ent.vN ?_) | intro _)
open PySem L2 Toy in
local macro_rules | `(tactic| walk_at "opn") => `(tactic| first
  | ((with_reducible refine Ent.els1I fun e => ?_); subst e)
  | ((with_reducible refine Ent.els1B fun e => ?_); subst e)
  | ((with_reducible refine Ent.els1S fun e => ?_); subst e)
  | ((with_reducible refine Ent.els1 fun _ e => ?_); subst e)
  | ((with_reducible refine Ent.elsCI fun _ e => ?_); subst e; walk_at "opn")
  | ((with_reducible refine Ent.elsCB fun _ e => ?_); subst e; walk_at "opn")
  | ((with_reducible refine Ent.elsCS fun _ e => ?_); subst e; walk_at "opn")
  | ((with_reducible refine Ent.elsC fun _ _ e => ?_); subst e; walk_at "opn")
  | ((with_reducible refine Ent.elsN fun e => ?_); subst e))
open PySem L2 Toy in
local macro_rules | `(tactic| walk_at "gR1") => `(tactic| first
  | (with_reducible refine c_I $(Lean.mkIdent `hm) (fun $(Lean.mkIdent `hm) => ?_))
  | (with_reducible first | refine e_I0 ?_ | refine e_eqII ?_ | refine e_neII ?_ | refine e_eqSS ?_ | refine e_neSS ?_ | refine e_eqBB ?_ | refine e_neBB ?_)
  | ((with_reducible refine' e_I ?h ?_); (case h => walk_at "si"))
  | ((with_reducible refine' c_ix $(Lean.mkIdent `hm) ?t (fun w $(Lean.mkIdent `hm) => ?_)); (case t => walk_at "fr"); walk_at "nv")
  | ((with_reducible refine' c_ixT $(Lean.mkIdent `hm) ?t (fun w $(Lean.mkIdent `hm) => ?_)); (case t => walk_at "fr0"); walk_at "nv")
  | ((with_reducible refine' e_ixT ?h ?g ?_); (case h => walk_at "ht"); (case g => rfl))
  | ((with_reducible refine' c_opnIx ?t (fun a us e => ?_)); (case t => walk_at "fr0"); subst e; walk_at "opn")
  | ((with_reducible refine' e_eqC ?h ?g ?_); (case h => walk_at "ct"); (case g => walk_at "ct"))
  | ((with_reducible refine' e_neC ?h ?g ?_); (case h => walk_at "ct"); (case g => walk_at "ct"))
  | ((with_reducible refine' c_isO ?t ?n ?_); (case t => walk_at "fr0"); (case n => infer_instance))
  | ((with_reducible refine' c_noO ?t ?n ?_); (case t => walk_at "fr0"); (case n => infer_instance))
  | (with_reducible first | refine c_isT ?_ | refine c_noT ?_)
  | ((with_reducible refine' c_isF ?h ?_); (case h => intro z; cases z))
  | ((with_reducible refine' c_noF ?h ?_); (case h => intro z; cases z))
  | ((with_reducible refine' e_inLs ?h ?_); (case h => walk_at "fr"))
  | ((with_reducible refine' e_niLs ?h ?_); (case h => walk_at "fr"))
  | walk_at "cat"
  | walk_at "rep"
  | ((with_reducible refine' c_ixD $(Lean.mkIdent `hm) ?d (fun w $(Lean.mkIdent `hm) => ?_)); (case d => walk_at "kdt"))
  | ((with_reducible refine' c_inD $(Lean.mkIdent `hm) ?d (fun $(Lean.mkIdent `hm) => ?_)); (case d => walk_at "kdt"))
  | ((with_reducible refine' c_niD $(Lean.mkIdent `hm) ?d (fun $(Lean.mkIdent `hm) => ?_)); (case d => walk_at "kdt"))
  | ((with_reducible refine' e_own ?h ?ht ?hn ?_); (case h => walk_at "ins"); (case ht => walk_at "tyx"); (case hn => walk_at "nfst"))
  | ((with_reducible refine' e_eq ?h ?_); (case h => rfl))
  | ((with_reducible refine' e_ne ?h ?_); (case h => rfl)))
open PySem L2 Toy in
local macro_rules | `(tactic| walk_at "gC1") => `(tactic| first
  | ((with_reducible refine' c_lenSq ?h ?_); (case h => walk_at "sq2"))
  | ((with_reducible refine' c_listSq ?h (fun _ => ?_)); (case h => walk_at "sq2"))
  | walk_at "rpr"
  | ((with_reducible refine' c_all ?h ?_); (case h => walk_at "fr"))
  | ((with_reducible refine' e_isi (r := true) ?ht ?hc ?hk ?_); (case ht => walk_at "tyx"); (case hc => (first | exact .ty _ | exact .own _)); (case hk => walk_at "kit"))
  | ((with_reducible refine' e_isi (r := false) ?ht ?hc ?hk ?_); (case ht => walk_at "tyx"); (case hc => (first | exact .ty _ | exact .own _)); (case hk => walk_at "kit"))
  | ((with_reducible refine' e_lenLs ?h ?_); (case h => walk_at "fr"))
  | ((with_reducible refine' c_lenT ?h ?_); (case h => walk_at "fr0"))
  | ((with_reducible refine' e_lenT ?h ?_); (case h => walk_at "ht"))
  | ((with_reducible refine' e_sort ?h (fun _ => ?_)); (case h => walk_at "fr"))
  | ((with_reducible refine' c_min $(Lean.mkIdent `hm) ?h (fun _ $(Lean.mkIdent `hm) => ?_)); (case h => walk_at "fr"))
  | ((with_reducible refine' e_listLs ?h (fun _ => ?_)); (case h => walk_at "fr"))
  | ((with_reducible refine' e_tupLs ?h (fun _ => ?_)); (case h => walk_at "fr")))
open PySem L2 Toy in
local macro_rules | `(tactic| walk_at "gM1") => `(tactic| first
  | ((with_reducible refine' c_app $(Lean.mkIdent `hm) ?t ?y (fun $(Lean.mkIdent `hm) => ?_)); (case t => walk_at "fr"); (case y => walk_at "el"))
  | ((with_reducible refine' e_appDrop $(Lean.mkIdent `hm) ?t (fun $(Lean.mkIdent `hm) => ?_)); (case t => walk_at "fr"))
  | ((with_reducible refine' c_pop $(Lean.mkIdent `hm) ?t (fun w $(Lean.mkIdent `hm) => ?_)); (case t => walk_at "fr"); walk_at "nv")
  | ((with_reducible refine' c_popAt $(Lean.mkIdent `hm) ?t (fun w $(Lean.mkIdent `hm) => ?_)); (case t => walk_at "fr"); walk_at "nv")
  | ((with_reducible refine' c_indexS $(Lean.mkIdent `hm) ?t (fun j $(Lean.mkIdent `hm) => ?_)); (case t => walk_at "fr"))
  | ((with_reducible refine' e_clearLs ?h ?_); (case h => walk_at "fr")))
open PySem L2 Toy in
local macro_rules | `(tactic| walk_at "gG1") => `(tactic| first
  | (with_reducible refine e_gname ?_) | ((with_reducible refine' e_gtup ?h ?g ?_); (case h => walk_at "ht"); (case g => rfl)) | (with_reducible refine e_gsub ?_)
  | ((with_reducible refine' c_opnG ?t (fun a us e => ?_)); (case t => walk_at "fr0"); subst e; walk_at "opn"))
open PySem L2 Toy in
local macro_rules | `(tactic| walk_at "gT1") => `(tactic| first
  | walk_at "sT"
  | ((with_reducible refine' c_cutT $(Lean.mkIdent `hm) (fun jp $(Lean.mkIdent `hm) => ?q) (fun b $(Lean.mkIdent `hm) => ?_)); (case q => repeat (walk_at "go"))))
open PySem L2 Toy in
local macro_rules | `(tactic| walk_at "sq2") => `(tactic| first
  | ((refine' SqAt.sub ?z ?y); (case y => assumption); (case z => walk_at "dr"))
  | ((refine' sqAt_ls ?z); (case z => walk_at "fr"))
  | ((refine' sqAt_kT ?z); (case z => walk_at "fr0")))
open PySem L2 Toy in
local macro_rules | `(tactic| walk_at "man") => `(tactic| first
  | ((with_reducible refine' c_draw $(Lean.mkIdent `hm) ?t (fun d $(Lean.mkIdent `hm) => ?_)); (case t => walk_at "fr0"))
  | ((with_reducible refine' c_pick $(Lean.mkIdent `hm) ?t ?l (fun w $(Lean.mkIdent `hm) => ?_)); (case t => walk_at "fr0"); (case l => walk_at "fr"); walk_at "nv")
  | ((with_reducible refine' c_isList ?h ?_); (case h => walk_at "sq2"))
  | ((with_reducible refine' e_pot ?t ?a ?b (fun _ => ?_)); (case t => walk_at "fr0"); (case a => omega); (case b => omega))
  | (with_reducible first | refine e_integer ?_ | refine e_count ?_ | refine e_isWord ?_ | refine e_B1 ?_)
  | (with_reducible first | refine c_wantMany $(Lean.mkIdent `hm) (fun $(Lean.mkIdent `hm) => ?_) | refine c_wantWord $(Lean.mkIdent `hm) (fun $(Lean.mkIdent `hm) => ?_) | refine c_W1 $(Lean.mkIdent `hm) (fun $(Lean.mkIdent `hm) => ?_)))
open PySem L2 Toy in
local macro_rules | `(tactic| walk_at "gO1") => `(tactic| first
  | (with_reducible first | refine e_U ?_ | refine e_gcons ?_ | refine e_gnil ?_ | refine e_int1 ?_ | refine e_intB ?_ | refine e_nopart ?_ | refine e_part ?_ | refine e_rg1 ?_ | refine e_rg2 ?_ | refine e_new fun _ _ => ?_)
  | ((with_reducible refine' e_tyLs ?h ?_); (case h => walk_at "fr"))
  | ((with_reducible refine' e_fld ?h ?c ?n ?l ?_); (case h => walk_at "fr0"); (case c => walk_at "cls"); (case n => walk_at "nat"); (case l => rfl))
  | ((with_reducible refine' e_sfld ?h ?c ?n ?l ?e ?_); (case h => walk_at "fr0"); (case c => walk_at "cls"); (case n => walk_at "nat"); (case l => exact Nat.le_of_ble_eq_true rfl); (case e => rfl))
  | walk_at "open1"
  | ((with_reducible refine' e_newT ?h fun _ => ?_); (case h => walk_at "sz"))
  | ((with_reducible refine' e_newL ?h fun _ => ?_); (case h => walk_at "sz"))
  | ((with_reducible refine' c_set $(Lean.mkIdent `hm) ?t ?y (fun j $(Lean.mkIdent `hm) => ?_)); (case t => walk_at "fr"); (case y => walk_at "el"))
  | ((with_reducible refine' e_slLs ?h fun _ => ?_); (case h => walk_at "fr"))
  | ((with_reducible refine' e_revLs ?h fun _ => ?_); (case h => walk_at "fr"))
  | ((with_reducible refine' e_newK ?h ?g fun _ _ => ?_); (case h => rfl); (case g => rfl))
  | walk_at "frz"
  | (with_reducible refine e_exb ?_)
  | walk_at "sF" | walk_at "man" | walk_at "lc")
open PySem L2 Toy in
local macro_rules | `(tactic| walk_at "gst") => `(tactic| first
  | ((with_reducible refine' c_get $(Lean.mkIdent `hm) ?t (fun w $(Lean.mkIdent `hm) e => ?_)); (case t => walk_at "fr0"); cases e)
  | ((with_reducible refine' c_getV $(Lean.mkIdent `hm) ?t (fun w $(Lean.mkIdent `hm) => ?_)); (case t => walk_at "fr0"))
  | ((with_reducible refine' c_getU0 $(Lean.mkIdent `hm) ?t (fun w $(Lean.mkIdent `hm) => ?_)); (case t => walk_at "fr0"))
  | ((with_reducible refine' c_getU1 $(Lean.mkIdent `hm) ?t (fun w $(Lean.mkIdent `hm) => ?_)); (case t => walk_at "fr0"))
  | ((with_reducible refine gS ?_); walk_at "sS")
  | ((with_reducible refine gE ?_); first | walk_at "sE" | ((with_reducible refine' e_lcSv ?h ?_); (case h => rfl)) | walk_at "lcS" | ((with_reducible refine e_frz0 ?_)) | walk_at "cE")
  | ((with_reducible refine gT ?_); walk_at "gT1")
  | ((with_reducible refine gA ?_); walk_at "sA")
  | ((with_reducible refine gX ?_); walk_at "sX")
  | ((with_reducible refine gI ?_); (with_reducible first | refine eT ?_ | refine eF ?_ | refine eNT ?_ | refine eNF ?_))
  | ((with_reducible refine gR ?_); walk_at "gR1")
  | ((with_reducible refine gC ?_); walk_at "gC1")
  | ((with_reducible refine gM ?_); walk_at "gM1")
  | ((with_reducible refine gG ?_); walk_at "gG1")
  | ((with_reducible refine gN ?_); first | ((with_reducible refine' e_ln ?h ?_); (case h => rfl); (try simp only [List.getD_cons_zero, List.getD_cons_succ])) | walk_at "sN")
  | walk_at "gO1")
open PySem L2 Toy in
local macro_rules | `(tactic| walk_at "if") => `(tactic| (first
  | refine c_if $(Lean.mkIdent `hm) (fun $(Lean.mkIdent `hm) => ?_) (fun $(Lean.mkIdent `hm) => ?_) | refine c_ifN $(Lean.mkIdent `hm) (fun $(Lean.mkIdent `hm) => ?_) (fun $(Lean.mkIdent `hm) => ?_) | refine c_ifB $(Lean.mkIdent `hm) (fun $(Lean.mkIdent `hm) => ?_) (fun $(Lean.mkIdent `hm) => ?_) | refine c_ifNB $(Lean.mkIdent `hm) (fun $(Lean.mkIdent `hm) => ?_) (fun $(Lean.mkIdent `hm) => ?_)))
open PySem L2 Toy in
local macro_rules | `(tactic| walk_at "fin") => `(tactic| first
  | ((with_reducible refine' Ent.sub ?s ($(Lean.mkIdent `q) _ $(Lean.mkIdent `hm))); (case s => walk_at "sub"))
  | ((with_reducible refine' Ent.sub ?s ($(Lean.mkIdent `q) _ $(Lean.mkIdent `hm) _)); (case s => walk_at "sub"))
  | ((with_reducible refine' Ent.sub ?s ($(Lean.mkIdent `q) _ $(Lean.mkIdent `hm) _ _)); (case s => walk_at "sub"))
  | ((with_reducible refine' Ent.sub ?s ($(Lean.mkIdent `q) _ $(Lean.mkIdent `hm) _ _ _)); (case s => walk_at "sub"))
  | ((with_reducible refine' Ent.sub ?s ($(Lean.mkIdent `q) _ $(Lean.mkIdent `hm) _ _ _ _)); (case s => walk_at "sub"))
  | ((with_reducible refine' Ent.sub ?s ($(Lean.mkIdent `q1) _ _ $(Lean.mkIdent `hm))); (case s => walk_at "sub"))
  | ((with_reducible refine' Ent.sub ?s ($(Lean.mkIdent `q2) $(Lean.mkIdent `hm))); (case s => walk_at "sub"))
  | ((with_reducible refine' c_endT $(Lean.mkIdent `hm) ?s); (case s => walk_at "sub"))
  | ((with_reducible refine' c_endE $(Lean.mkIdent `hm) ?s); (case s => walk_at "sub"))
  | ((with_reducible refine' c_end $(Lean.mkIdent `hm) () ?h ?s); (case h => ((try dsimp only); rfl)); (case s => ((try dsimp only); walk_at "sub")))
  | ((with_reducible refine' c_end $(Lean.mkIdent `hm) (_, _, _, _, _, _, _, _, _, _, _, _, _, _, _, _, _, _, _, _, _, _, _, _, _, _, _, _, _, _) ?h ?s); (case h => ((try dsimp only); rfl)); (case s => ((try dsimp only); walk_at "sub")))
  | ((with_reducible refine' c_end $(Lean.mkIdent `hm) (_, _, _, _, _, _, _, _, _, _, _, _, _, _, _, _, _, _, _, _, _, _, _, _, _, _, _, _, _) ?h ?s); (case h => ((try dsimp only); rfl)); (case s => ((try dsimp only); walk_at "sub")))
  | ((with_reducible refine' c_end $(Lean.mkIdent `hm) (_, _, _, _, _, _, _, _, _, _, _, _, _, _, _, _, _, _, _, _, _, _, _, _, _, _, _, _) ?h ?s); (case h => ((try dsimp only); rfl)); (case s => ((try dsimp only); walk_at "sub")))
  | ((with_reducible refine' c_end $(Lean.mkIdent `hm) (_, _, _, _, _, _, _, _, _, _, _, _, _, _, _, _, _, _, _, _, _, _, _, _, _, _, _) ?h ?s); (case h => ((try dsimp only); rfl)); (case s => ((try dsimp only); walk_at "sub")))
  | ((with_reducible refine' c_end $(Lean.mkIdent `hm) (_, _, _, _, _, _, _, _, _, _, _, _, _, _, _, _, _, _, _, _, _, _, _, _, _, _) ?h ?s); (case h => ((try dsimp only); rfl)); (case s => ((try dsimp only); walk_at "sub")))
  | ((with_reducible refine' c_end $(Lean.mkIdent `hm) (_, _, _, _, _, _, _, _, _, _, _, _, _, _, _, _, _, _, _, _, _, _, _, _, _) ?h ?s); (case h => ((try dsimp only); rfl)); (case s => ((try dsimp only); walk_at "sub")))
  | ((with_reducible refine' c_end $(Lean.mkIdent `hm) (_, _, _, _, _, _, _, _, _, _, _, _, _, _, _, _, _, _, _, _, _, _, _, _) ?h ?s); (case h => ((try dsimp only); rfl)); (case s => ((try dsimp only); walk_at "sub")))
  | ((with_reducible refine' c_end $(Lean.mkIdent `hm) (_, _, _, _, _, _, _, _, _, _, _, _, _, _, _, _, _, _, _, _, _, _, _) ?h ?s); (case h => ((try dsimp only); rfl)); (case s => ((try dsimp only); walk_at "sub")))
  | ((with_reducible refine' c_end $(Lean.mkIdent `hm) (_, _, _, _, _, _, _, _, _, _, _, _, _, _, _, _, _, _, _, _, _, _) ?h ?s); (case h => ((try dsimp only); rfl)); (case s => ((try dsimp only); walk_at "sub")))
  | ((with_reducible refine' c_end $(Lean.mkIdent `hm) (_, _, _, _, _, _, _, _, _, _, _, _, _, _, _, _, _, _, _, _, _) ?h ?s); (case h => ((try dsimp only); rfl)); (case s => ((try dsimp only); walk_at "sub")))
  | ((with_reducible refine' c_end $(Lean.mkIdent `hm) (_, _, _, _, _, _, _, _, _, _, _, _, _, _, _, _, _, _, _, _) ?h ?s); (case h => ((try dsimp only); rfl)); (case s => ((try dsimp only); walk_at "sub")))
  | ((with_reducible refine' c_end $(Lean.mkIdent `hm) (_, _, _, _, _, _, _, _, _, _, _, _, _, _, _, _, _, _, _) ?h ?s); (case h => ((try dsimp only); rfl)); (case s => ((try dsimp only); walk_at "sub")))
  | ((with_reducible refine' c_end $(Lean.mkIdent `hm) (_, _, _, _, _, _, _, _, _, _, _, _, _, _, _, _, _, _) ?h ?s); (case h => ((try dsimp only); rfl)); (case s => ((try dsimp only); walk_at "sub")))
  | ((with_reducible refine' c_end $(Lean.mkIdent `hm) (_, _, _, _, _, _, _, _, _, _, _, _, _, _, _, _, _) ?h ?s); (case h => ((try dsimp only); rfl)); (case s => ((try dsimp only); walk_at "sub")))
  | ((with_reducible refine' c_end $(Lean.mkIdent `hm) (_, _, _, _, _, _, _, _, _, _, _, _, _, _, _, _) ?h ?s); (case h => ((try dsimp only); rfl)); (case s => ((try dsimp only); walk_at "sub")))
  | ((with_reducible refine' c_end $(Lean.mkIdent `hm) (_, _, _, _, _, _, _, _, _, _, _, _, _, _, _) ?h ?s); (case h => ((try dsimp only); rfl)); (case s => ((try dsimp only); walk_at "sub")))
  | ((with_reducible refine' c_end $(Lean.mkIdent `hm) (_, _, _, _, _, _, _, _, _, _, _, _, _, _) ?h ?s); (case h => ((try dsimp only); rfl)); (case s => ((try dsimp only); walk_at "sub")))
  | ((with_reducible refine' c_end $(Lean.mkIdent `hm) (_, _, _, _, _, _, _, _, _, _, _, _, _) ?h ?s); (case h => ((try dsimp only); rfl)); (case s => ((try dsimp only); walk_at "sub")))
  | ((with_reducible refine' c_end $(Lean.mkIdent `hm) (_, _, _, _, _, _, _, _, _, _, _, _) ?h ?s); (case h => ((try dsimp only); rfl)); (case s => ((try dsimp only); walk_at "sub")))
  | ((with_reducible refine' c_end $(Lean.mkIdent `hm) (_, _, _, _, _, _, _, _, _, _, _) ?h ?s); (case h => ((try dsimp only); rfl)); (case s => ((try dsimp only); walk_at "sub")))
  | ((with_reducible refine' c_end $(Lean.mkIdent `hm) (_, _, _, _, _, _, _, _, _, _) ?h ?s); (case h => ((try dsimp only); rfl)); (case s => ((try dsimp only); walk_at "sub")))
  | ((with_reducible refine' c_end $(Lean.mkIdent `hm) (_, _, _, _, _, _, _, _, _) ?h ?s); (case h => ((try dsimp only); rfl)); (case s => ((try dsimp only); walk_at "sub")))
  | ((with_reducible refine' c_end $(Lean.mkIdent `hm) (_, _, _, _, _, _, _, _) ?h ?s); (case h => ((try dsimp only); rfl)); (case s => ((try dsimp only); walk_at "sub")))
  | ((with_reducible refine' c_end $(Lean.mkIdent `hm) (_, _, _, _, _, _, _) ?h ?s); (case h => ((try dsimp only); rfl)); (case s => ((try dsimp only); walk_at "sub")))
  | ((with_reducible refine' c_end $(Lean.mkIdent `hm) (_, _, _, _, _, _) ?h ?s); (case h => ((try dsimp only); rfl)); (case s => ((try dsimp only); walk_at "sub")))
  | ((with_reducible refine' c_end $(Lean.mkIdent `hm) (_, _, _, _, _) ?h ?s); (case h => ((try dsimp only); rfl)); (case s => ((try dsimp only); walk_at "sub")))
  | ((with_reducible refine' c_end $(Lean.mkIdent `hm) (_, _, _, _) ?h ?s); (case h => ((try dsimp only); rfl)); (case s => ((try dsimp only); walk_at "sub")))
  | ((with_reducible refine' c_end $(Lean.mkIdent `hm) (_, _, _) ?h ?s); (case h => ((try dsimp only); rfl)); (case s => ((try dsimp only); walk_at "sub")))
  | ((with_reducible refine' c_end $(Lean.mkIdent `hm) (_, _) ?h ?s); (case h => ((try dsimp only); rfl)); (case s => ((try dsimp only); walk_at "sub")))
  | ((with_reducible refine' c_end $(Lean.mkIdent `hm) _ ?h ?s); (case h => ((try dsimp only); rfl)); (case s => ((try dsimp only); walk_at "sub")))
  | ((with_reducible refine' c_brk $(Lean.mkIdent `hbk) $(Lean.mkIdent `hm) () ?h ?s); (case h => ((try dsimp only); rfl)); (case s => ((try dsimp only); walk_at "sub")))
  | ((with_reducible refine' c_brk $(Lean.mkIdent `hbk) $(Lean.mkIdent `hm) (_, _, _, _, _, _, _, _, _, _, _, _, _, _, _, _, _, _, _, _, _, _, _, _, _, _, _, _, _, _) ?h ?s); (case h => ((try dsimp only); rfl)); (case s => ((try dsimp only); walk_at "sub")))
  | ((with_reducible refine' c_brk $(Lean.mkIdent `hbk) $(Lean.mkIdent `hm) (_, _, _, _, _, _, _, _, _, _, _, _, _, _, _, _, _, _, _, _, _, _, _, _, _, _, _, _, _) ?h ?s); (case h => ((try dsimp only); rfl)); (case s => ((try dsimp only); walk_at "sub")))
  | ((with_reducible refine' c_brk $(Lean.mkIdent `hbk) $(Lean.mkIdent `hm) (_, _, _, _, _, _, _, _, _, _, _, _, _, _, _, _, _, _, _, _, _, _, _, _, _, _, _, _) ?h ?s); (case h => ((try dsimp only); rfl)); (case s => ((try dsimp only); walk_at "sub")))
  | ((with_reducible refine' c_brk $(Lean.mkIdent `hbk) $(Lean.mkIdent `hm) (_, _, _, _, _, _, _, _, _, _, _, _, _, _, _, _, _, _, _, _, _, _, _, _, _, _, _) ?h ?s); (case h => ((try dsimp only); rfl)); (case s => ((try dsimp only); walk_at "sub")))
  | ((with_reducible refine' c_brk $(Lean.mkIdent `hbk) $(Lean.mkIdent `hm) (_, _, _, _, _, _, _, _, _, _, _, _, _, _, _, _, _, _, _, _, _, _, _, _, _, _) ?h ?s); (case h => ((try dsimp only); rfl)); (case s => ((try dsimp only); walk_at "sub")))
  | ((with_reducible refine' c_brk $(Lean.mkIdent `hbk) $(Lean.mkIdent `hm) (_, _, _, _, _, _, _, _, _, _, _, _, _, _, _, _, _, _, _, _, _, _, _, _, _) ?h ?s); (case h => ((try dsimp only); rfl)); (case s => ((try dsimp only); walk_at "sub")))
  | ((with_reducible refine' c_brk $(Lean.mkIdent `hbk) $(Lean.mkIdent `hm) (_, _, _, _, _, _, _, _, _, _, _, _, _, _, _, _, _, _, _, _, _, _, _, _) ?h ?s); (case h => ((try dsimp only); rfl)); (case s => ((try dsimp only); walk_at "sub")))
  | ((with_reducible refine' c_brk $(Lean.mkIdent `hbk) $(Lean.mkIdent `hm) (_, _, _, _, _, _, _, _, _, _, _, _, _, _, _, _, _, _, _, _, _, _, _) ?h ?s); (case h => ((try dsimp only); rfl)); (case s => ((try dsimp only); walk_at "sub")))
  | ((with_reducible refine' c_brk $(Lean.mkIdent `hbk) $(Lean.mkIdent `hm) (_, _, _, _, _, _, _, _, _, _, _, _, _, _, _, _, _, _, _, _, _, _) ?h ?s); (case h => ((try dsimp only); rfl)); (case s => ((try dsimp only); walk_at "sub")))
  | ((with_reducible refine' c_brk $(Lean.mkIdent `hbk) $(Lean.mkIdent `hm) (_, _, _, _, _, _, _, _, _, _, _, _, _, _, _, _, _, _, _, _, _) ?h ?s); (case h => ((try dsimp only); rfl)); (case s => ((try dsimp only); walk_at "sub")))
  | ((with_reducible refine' c_brk $(Lean.mkIdent `hbk) $(Lean.mkIdent `hm) (_, _, _, _, _, _, _, _, _, _, _, _, _, _, _, _, _, _, _, _) ?h ?s); (case h => ((try dsimp only); rfl)); (case s => ((try dsimp only); walk_at "sub")))
  | ((with_reducible refine' c_brk $(Lean.mkIdent `hbk) $(Lean.mkIdent `hm) (_, _, _, _, _, _, _, _, _, _, _, _, _, _, _, _, _, _, _) ?h ?s); (case h => ((try dsimp only); rfl)); (case s => ((try dsimp only); walk_at "sub")))
  | ((with_reducible refine' c_brk $(Lean.mkIdent `hbk) $(Lean.mkIdent `hm) (_, _, _, _, _, _, _, _, _, _, _, _, _, _, _, _, _, _) ?h ?s); (case h => ((try dsimp only); rfl)); (case s => ((try dsimp only); walk_at "sub")))
  | ((with_reducible refine' c_brk $(Lean.mkIdent `hbk) $(Lean.mkIdent `hm) (_, _, _, _, _, _, _, _, _, _, _, _, _, _, _, _, _) ?h ?s); (case h => ((try dsimp only); rfl)); (case s => ((try dsimp only); walk_at "sub")))
  | ((with_reducible refine' c_brk $(Lean.mkIdent `hbk) $(Lean.mkIdent `hm) (_, _, _, _, _, _, _, _, _, _, _, _, _, _, _, _) ?h ?s); (case h => ((try dsimp only); rfl)); (case s => ((try dsimp only); walk_at "sub")))
  | ((with_reducible refine' c_brk $(Lean.mkIdent `hbk) $(Lean.mkIdent `hm) (_, _, _, _, _, _, _, _, _, _, _, _, _, _, _) ?h ?s); (case h => ((try dsimp only); rfl)); (case s => ((try dsimp only); walk_at "sub")))
  | ((with_reducible refine' c_brk $(Lean.mkIdent `hbk) $(Lean.mkIdent `hm) (_, _, _, _, _, _, _, _, _, _, _, _, _, _) ?h ?s); (case h => ((try dsimp only); rfl)); (case s => ((try dsimp only); walk_at "sub")))
  | ((with_reducible refine' c_brk $(Lean.mkIdent `hbk) $(Lean.mkIdent `hm) (_, _, _, _, _, _, _, _, _, _, _, _, _) ?h ?s); (case h => ((try dsimp only); rfl)); (case s => ((try dsimp only); walk_at "sub")))
  | ((with_reducible refine' c_brk $(Lean.mkIdent `hbk) $(Lean.mkIdent `hm) (_, _, _, _, _, _, _, _, _, _, _, _) ?h ?s); (case h => ((try dsimp only); rfl)); (case s => ((try dsimp only); walk_at "sub")))
  | ((with_reducible refine' c_brk $(Lean.mkIdent `hbk) $(Lean.mkIdent `hm) (_, _, _, _, _, _, _, _, _, _, _) ?h ?s); (case h => ((try dsimp only); rfl)); (case s => ((try dsimp only); walk_at "sub")))
  | ((with_reducible refine' c_brk $(Lean.mkIdent `hbk) $(Lean.mkIdent `hm) (_, _, _, _, _, _, _, _, _, _) ?h ?s); (case h => ((try dsimp only); rfl)); (case s => ((try dsimp only); walk_at "sub")))
  | ((with_reducible refine' c_brk $(Lean.mkIdent `hbk) $(Lean.mkIdent `hm) (_, _, _, _, _, _, _, _, _) ?h ?s); (case h => ((try dsimp only); rfl)); (case s => ((try dsimp only); walk_at "sub")))
  | ((with_reducible refine' c_brk $(Lean.mkIdent `hbk) $(Lean.mkIdent `hm) (_, _, _, _, _, _, _, _) ?h ?s); (case h => ((try dsimp only); rfl)); (case s => ((try dsimp only); walk_at "sub")))
  | ((with_reducible refine' c_brk $(Lean.mkIdent `hbk) $(Lean.mkIdent `hm) (_, _, _, _, _, _, _) ?h ?s); (case h => ((try dsimp only); rfl)); (case s => ((try dsimp only); walk_at "sub")))
  | ((with_reducible refine' c_brk $(Lean.mkIdent `hbk) $(Lean.mkIdent `hm) (_, _, _, _, _, _) ?h ?s); (case h => ((try dsimp only); rfl)); (case s => ((try dsimp only); walk_at "sub")))
  | ((with_reducible refine' c_brk $(Lean.mkIdent `hbk) $(Lean.mkIdent `hm) (_, _, _, _, _) ?h ?s); (case h => ((try dsimp only); rfl)); (case s => ((try dsimp only); walk_at "sub")))
  | ((with_reducible refine' c_brk $(Lean.mkIdent `hbk) $(Lean.mkIdent `hm) (_, _, _, _) ?h ?s); (case h => ((try dsimp only); rfl)); (case s => ((try dsimp only); walk_at "sub")))
  | ((with_reducible refine' c_brk $(Lean.mkIdent `hbk) $(Lean.mkIdent `hm) (_, _, _) ?h ?s); (case h => ((try dsimp only); rfl)); (case s => ((try dsimp only); walk_at "sub")))
  | ((with_reducible refine' c_brk $(Lean.mkIdent `hbk) $(Lean.mkIdent `hm) (_, _) ?h ?s); (case h => ((try dsimp only); rfl)); (case s => ((try dsimp only); walk_at "sub")))
  | ((with_reducible refine' c_brk $(Lean.mkIdent `hbk) $(Lean.mkIdent `hm) _ ?h ?s); (case h => ((try dsimp only); rfl)); (case s => ((try dsimp only); walk_at "sub")))
  | exact rt_law $(Lean.mkIdent `hm) $(Lean.mkIdent `q)
  | exact False.elim $(Lean.mkIdent `hm))
open PySem L2 Toy in
local macro_rules | `(tactic| walk_at "go") => `(tactic| first | walk_at "gst" | walk_at "if" | walk_at "fin")
namespace Toy
open PySem L2 PyProof.Rows

def top (i : Nat) : Stmt := PySem.Challenge.pw_orderlycore_k77_whole_loads_get_what_the.main.body.getD i (.Pass ⟨0, 0, 0, 0⟩)
abbrev s_CoreError___init__ : Stmt := inClass (top 2) 0
theorem sc_CoreError___init__ : FnScope ["self", "value"] ["self", "value"] (defScope s_CoreError___init__) := ⟨rfl, rfl, rfl, by decide +kernel, rfl, by decide +kernel, by decide +kernel⟩
abbrev s_is_integer : Stmt := top 16
theorem sc_is_integer : FnScope ["value"] ["value"] (defScope s_is_integer) := ⟨rfl, rfl, rfl, by decide +kernel, rfl, by decide +kernel, by decide +kernel⟩
abbrev s_is_count : Stmt := top 17
theorem sc_is_count : FnScope ["value"] ["value"] (defScope s_is_count) := ⟨rfl, rfl, rfl, by decide +kernel, rfl, by decide +kernel, by decide +kernel⟩
abbrev s_want_many : Stmt := top 18
theorem sc_want_many : FnScope ["value", "least", "most"] ["value", "least", "most"] (defScope s_want_many) := ⟨rfl, rfl, rfl, by decide +kernel, rfl, by decide +kernel, by decide +kernel⟩
abbrev s_is_word : Stmt := top 22
theorem sc_is_word : FnScope ["value"] ["value"] (defScope s_is_word) := ⟨rfl, rfl, rfl, by decide +kernel, rfl, by decide +kernel, by decide +kernel⟩
abbrev s_is_place : Stmt := top 23
theorem sc_is_place : FnScope ["value"] ["value"] (defScope s_is_place) := ⟨rfl, rfl, rfl, by decide +kernel, rfl, by decide +kernel, by decide +kernel⟩
abbrev s_want_word : Stmt := top 24
theorem sc_want_word : FnScope ["value"] ["value"] (defScope s_want_word) := ⟨rfl, rfl, rfl, by decide +kernel, rfl, by decide +kernel, by decide +kernel⟩
abbrev s_want_place : Stmt := top 25
theorem sc_want_place : FnScope ["value"] ["value"] (defScope s_want_place) := ⟨rfl, rfl, rfl, by decide +kernel, rfl, by decide +kernel, by decide +kernel⟩
abbrev s_Queues___init__ : Stmt := inClass (top 28) 0
theorem sc_Queues___init__ : FnScope ["self", "loads", "stores"] ["self", "loads", "stores"] (defScope s_Queues___init__) := ⟨rfl, rfl, rfl, by decide +kernel, rfl, by decide +kernel, by decide +kernel⟩
abbrev s_Queues_all_numbers : Stmt := inClass (top 28) 1
theorem sc_Queues_all_numbers : FnScope ["self", "row"] ["self"] (defScope s_Queues_all_numbers) := ⟨rfl, rfl, rfl, by decide +kernel, rfl, by decide +kernel, by decide +kernel⟩
abbrev s_Queues_source_of : Stmt := inClass (top 28) 2
theorem sc_Queues_source_of : FnScope ["self", "number", "place", "found", "store", "there", "word"] ["self", "number", "place"] (defScope s_Queues_source_of) := ⟨rfl, rfl, rfl, by decide +kernel, rfl, by decide +kernel, by decide +kernel⟩
abbrev s_Queues_told_known : Stmt := inClass (top 28) 3
theorem sc_Queues_told_known : FnScope ["self", "number", "place", "word", "load", "there", "source", "row"] ["self", "number", "place", "word"] (defScope s_Queues_told_known) := ⟨rfl, rfl, rfl, by decide +kernel, rfl, by decide +kernel, by decide +kernel⟩
abbrev s_Queues_note_read : Stmt := inClass (top 28) 4
theorem sc_Queues_note_read : FnScope ["self", "number", "place", "source", "row"] ["self", "number", "place", "source"] (defScope s_Queues_note_read) := ⟨rfl, rfl, rfl, by decide +kernel, rfl, by decide +kernel, by decide +kernel⟩
abbrev s_Queues_drop_from : Stmt := inClass (top 28) 5
theorem sc_Queues_drop_from : FnScope ["self", "number", "row"] ["self", "number"] (defScope s_Queues_drop_from) := ⟨rfl, rfl, rfl, by decide +kernel, rfl, by decide +kernel, by decide +kernel⟩
abbrev s_Queues_leave_oldest : Stmt := inClass (top 28) 6
theorem sc_Queues_leave_oldest : FnScope ["self", "number", "row"] ["self", "number"] (defScope s_Queues_leave_oldest) := ⟨rfl, rfl, rfl, by decide +kernel, rfl, by decide +kernel, by decide +kernel⟩
abbrev s_Queues_want_new : Stmt := inClass (top 28) 7
theorem sc_Queues_want_new : FnScope ["self", "number"] ["self", "number"] (defScope s_Queues_want_new) := ⟨rfl, rfl, rfl, by decide +kernel, rfl, by decide +kernel, by decide +kernel⟩
abbrev s_Queues_row_of : Stmt := inClass (top 28) 8
theorem sc_Queues_row_of : FnScope ["self", "rows", "number", "found", "row"] ["self", "rows", "number"] (defScope s_Queues_row_of) := ⟨rfl, rfl, rfl, by decide +kernel, rfl, by decide +kernel, by decide +kernel⟩
abbrev s_Queues_is_source : Stmt := inClass (top 28) 9
theorem sc_Queues_is_source : FnScope ["self", "number", "place", "value", "rows", "row"] ["self", "number", "place", "value"] (defScope s_Queues_is_source) := ⟨rfl, rfl, rfl, by decide +kernel, rfl, by decide +kernel, by decide +kernel⟩
abbrev s_Queues_can_load : Stmt := inClass (top 28) 10
theorem sc_Queues_can_load : FnScope ["self"] ["self"] (defScope s_Queues_can_load) := ⟨rfl, rfl, rfl, by decide +kernel, rfl, by decide +kernel, by decide +kernel⟩
abbrev s_Queues_can_store : Stmt := inClass (top 28) 11
theorem sc_Queues_can_store : FnScope ["self"] ["self"] (defScope s_Queues_can_store) := ⟨rfl, rfl, rfl, by decide +kernel, rfl, by decide +kernel, by decide +kernel⟩
abbrev s_Queues_load_entered : Stmt := inClass (top 28) 12
theorem sc_Queues_load_entered : FnScope ["self", "number"] ["self", "number"] (defScope s_Queues_load_entered) := ⟨rfl, rfl, rfl, by decide +kernel, rfl, by decide +kernel, by decide +kernel⟩
abbrev s_Queues_store_entered : Stmt := inClass (top 28) 13
theorem sc_Queues_store_entered : FnScope ["self", "number"] ["self", "number"] (defScope s_Queues_store_entered) := ⟨rfl, rfl, rfl, by decide +kernel, rfl, by decide +kernel, by decide +kernel⟩
abbrev s_Queues_known : Stmt := inClass (top 28) 14
theorem sc_Queues_known : FnScope ["self", "number", "place", "word", "row"] ["self", "number", "place", "word"] (defScope s_Queues_known) := ⟨rfl, rfl, rfl, by decide +kernel, rfl, by decide +kernel, by decide +kernel⟩
abbrev s_Queues_source : Stmt := inClass (top 28) 15
theorem sc_Queues_source : FnScope ["self", "number", "place"] ["self", "number", "place"] (defScope s_Queues_source) := ⟨rfl, rfl, rfl, by decide +kernel, rfl, by decide +kernel, by decide +kernel⟩
abbrev s_Queues_read : Stmt := inClass (top 28) 16
theorem sc_Queues_read : FnScope ["self", "number", "place", "source", "row"] ["self", "number", "place", "source"] (defScope s_Queues_read) := ⟨rfl, rfl, rfl, by decide +kernel, rfl, by decide +kernel, by decide +kernel⟩
abbrev s_Queues_leave : Stmt := inClass (top 28) 17
theorem sc_Queues_leave : FnScope ["self", "number"] ["self", "number"] (defScope s_Queues_leave) := ⟨rfl, rfl, rfl, by decide +kernel, rfl, by decide +kernel, by decide +kernel⟩
abbrev s_Queues_dropped : Stmt := inClass (top 28) 18
theorem sc_Queues_dropped : FnScope ["self", "number"] ["self", "number"] (defScope s_Queues_dropped) := ⟨rfl, rfl, rfl, by decide +kernel, rfl, by decide +kernel, by decide +kernel⟩
abbrev s_Queues_loads : Stmt := inClass (top 28) 19
theorem sc_Queues_loads : FnScope ["self"] ["self"] (defScope s_Queues_loads) := ⟨rfl, rfl, rfl, by decide +kernel, rfl, by decide +kernel, by decide +kernel⟩
abbrev s_Queues_stores : Stmt := inClass (top 28) 20
theorem sc_Queues_stores : FnScope ["self"] ["self"] (defScope s_Queues_stores) := ⟨rfl, rfl, rfl, by decide +kernel, rfl, by decide +kernel, by decide +kernel⟩
abbrev s_Queues___eq__ : Stmt := inClass (top 28) 22
theorem sc_Queues___eq__ : FnScope ["self", "other"] ["self", "other"] (defScope s_Queues___eq__) := ⟨rfl, rfl, rfl, by decide +kernel, rfl, by decide +kernel, by decide +kernel⟩
abbrev s__law_pot : Stmt := top 30
theorem sc__law_pot : FnScope ["_law_script", "_law_k", "_law_cell"] ["_law_script", "_law_k"] (defScope s__law_pot) := ⟨rfl, rfl, rfl, by decide +kernel, rfl, by decide +kernel, by decide +kernel⟩
abbrev s__law_draw : Stmt := top 31
theorem sc__law_draw : FnScope ["_law_pot_here", "_law_size", "_law_digit"] ["_law_pot_here", "_law_size"] (defScope s__law_draw) := ⟨rfl, rfl, rfl, by decide +kernel, rfl, by decide +kernel, by decide +kernel⟩
abbrev s__law_rows : Stmt := top 32
theorem sc__law_rows : FnScope ["_law_pot_here", "_law_found", "_law_turn"] ["_law_pot_here"] (defScope s__law_rows) := ⟨rfl, rfl, rfl, by decide +kernel, rfl, by decide +kernel, by decide +kernel⟩
abbrev s__law_plain : Stmt := top 33
theorem sc__law_plain : FnScope ["_law_rows_here", "_law_memory", "_law_told", "_law_is_store", "_law_place", "_law_word"] ["_law_rows_here"] (defScope s__law_plain) := ⟨rfl, rfl, rfl, by decide +kernel, rfl, by decide +kernel, by decide +kernel⟩
abbrev s__law_done : Stmt := top 34
theorem sc__law_done : FnScope ["_law_queues", "_law_memory", "_law_rows_here", "_law_flight", "_law_at", "_law_spot", "_law_number", "_law_is_done", "_law_got", "_law_is_store", "_law_place", "_law_word", "_law_source", "_law_early", "_law_due", "_law_wrong", "_law_one"] ["_law_queues", "_law_memory", "_law_rows_here", "_law_flight", "_law_at"] (defScope s__law_done) := ⟨rfl, rfl, rfl, by decide +kernel, rfl, by decide +kernel, by decide +kernel⟩
abbrev s__law_read_from : Stmt := top 35
theorem sc__law_read_from : FnScope ["_law_queues", "_law_number", "_law_one", "_law_place", "_law_source"] ["_law_queues", "_law_number"] (defScope s__law_read_from) := ⟨rfl, rfl, rfl, by decide +kernel, rfl, by decide +kernel, by decide +kernel⟩
abbrev s__law_right : Stmt := top 36
theorem sc__law_right : FnScope ["_law_pot_here", "_law_rows_here", "_law_due", "_law_last", "_law_queues", "_law_memory", "_law_flight", "_law_upcoming", "_law_number", "_law_got", "_law_turn", "_law_waiting", "_law_way", "_law_can", "_law_spot", "_law_oldest", "_law_is_done", "_law_told", "_law_at", "_law_early", "_law_one"] ["_law_pot_here"] (defScope s__law_right) := ⟨rfl, rfl, rfl, by decide +kernel, rfl, by decide +kernel, by decide +kernel⟩
abbrev s_law : Stmt := top 37
theorem sc_law : FnScope ["_law_script"] ["_law_script"] (defScope s_law) := ⟨rfl, rfl, rfl, by decide +kernel, rfl, by decide +kernel, by decide +kernel⟩
structure Ad where
  f_CoreError___init__ : Addr
  d_CoreError___init__ : FuncData
  f_is_integer : Addr
  d_is_integer : FuncData
  f_is_count : Addr
  d_is_count : FuncData
  f_want_many : Addr
  d_want_many : FuncData
  f_is_word : Addr
  d_is_word : FuncData
  f_is_place : Addr
  d_is_place : FuncData
  f_want_word : Addr
  d_want_word : FuncData
  f_want_place : Addr
  d_want_place : FuncData
  f_Queues___init__ : Addr
  d_Queues___init__ : FuncData
  f_Queues_all_numbers : Addr
  d_Queues_all_numbers : FuncData
  f_Queues_source_of : Addr
  d_Queues_source_of : FuncData
  f_Queues_told_known : Addr
  d_Queues_told_known : FuncData
  f_Queues_note_read : Addr
  d_Queues_note_read : FuncData
  f_Queues_drop_from : Addr
  d_Queues_drop_from : FuncData
  f_Queues_leave_oldest : Addr
  d_Queues_leave_oldest : FuncData
  f_Queues_want_new : Addr
  d_Queues_want_new : FuncData
  f_Queues_row_of : Addr
  d_Queues_row_of : FuncData
  f_Queues_is_source : Addr
  d_Queues_is_source : FuncData
  f_Queues_can_load : Addr
  d_Queues_can_load : FuncData
  p_Queues_can_load : Addr
  f_Queues_can_store : Addr
  d_Queues_can_store : FuncData
  p_Queues_can_store : Addr
  f_Queues_load_entered : Addr
  d_Queues_load_entered : FuncData
  f_Queues_store_entered : Addr
  d_Queues_store_entered : FuncData
  f_Queues_known : Addr
  d_Queues_known : FuncData
  f_Queues_source : Addr
  d_Queues_source : FuncData
  f_Queues_read : Addr
  d_Queues_read : FuncData
  f_Queues_leave : Addr
  d_Queues_leave : FuncData
  f_Queues_dropped : Addr
  d_Queues_dropped : FuncData
  f_Queues_loads : Addr
  d_Queues_loads : FuncData
  f_Queues_stores : Addr
  d_Queues_stores : FuncData
  f_Queues___eq__ : Addr
  d_Queues___eq__ : FuncData
  f__law_pot : Addr
  d__law_pot : FuncData
  f__law_draw : Addr
  d__law_draw : FuncData
  f__law_rows : Addr
  d__law_rows : FuncData
  f__law_plain : Addr
  d__law_plain : FuncData
  f__law_done : Addr
  d__law_done : FuncData
  f__law_read_from : Addr
  d__law_read_from : FuncData
  f__law_right : Addr
  d__law_right : FuncData
  f_law : Addr
  d_law : FuncData
  c_CoreError : Addr
  c_MissingError : Addr
  c_StateError : Addr
  c_InvalidWord : Addr
  c_InvalidPlace : Addr
  c_InvalidMany : Addr
  c_InvalidNumber : Addr
  c_InvalidSource : Addr
  c_UnknownNumber : Addr
  c_HasRead : Addr
  c_IsKnown : Addr
  c_NoRoom : Addr
  c_NotOldest : Addr
  c_Queues : Addr
  t_MOST_WORD : Tok
  t_MOST_PLACE : Tok
  t_MOST_ROOMS : Tok
structure Txt (K : PySem.W.Frag) (mg : Str → Option Value) (a : Ad) : Prop where
  g_CoreError : mg "CoreError" = some (.ref a.c_CoreError)
  x_CoreError : OexC K a.c_CoreError
  xi_CoreError : PySem.W.findIn K (.ref a.c_CoreError) "__init__" = some (some (.ref a.f_CoreError___init__))
  xn_CoreError_value : PySem.W.findIn K (.ref a.c_CoreError) "value" = some none
  g_MissingError : mg "MissingError" = some (.ref a.c_MissingError)
  g_StateError : mg "StateError" = some (.ref a.c_StateError)
  g_InvalidWord : mg "InvalidWord" = some (.ref a.c_InvalidWord)
  x_InvalidWord : OexC K a.c_InvalidWord
  xi_InvalidWord : PySem.W.findIn K (.ref a.c_InvalidWord) "__init__" = some (some (.ref a.f_CoreError___init__))
  xn_InvalidWord_value : PySem.W.findIn K (.ref a.c_InvalidWord) "value" = some none
  g_InvalidPlace : mg "InvalidPlace" = some (.ref a.c_InvalidPlace)
  x_InvalidPlace : OexC K a.c_InvalidPlace
  xi_InvalidPlace : PySem.W.findIn K (.ref a.c_InvalidPlace) "__init__" = some (some (.ref a.f_CoreError___init__))
  xn_InvalidPlace_value : PySem.W.findIn K (.ref a.c_InvalidPlace) "value" = some none
  g_InvalidMany : mg "InvalidMany" = some (.ref a.c_InvalidMany)
  x_InvalidMany : OexC K a.c_InvalidMany
  xi_InvalidMany : PySem.W.findIn K (.ref a.c_InvalidMany) "__init__" = some (some (.ref a.f_CoreError___init__))
  xn_InvalidMany_value : PySem.W.findIn K (.ref a.c_InvalidMany) "value" = some none
  g_InvalidNumber : mg "InvalidNumber" = some (.ref a.c_InvalidNumber)
  x_InvalidNumber : OexC K a.c_InvalidNumber
  xi_InvalidNumber : PySem.W.findIn K (.ref a.c_InvalidNumber) "__init__" = some (some (.ref a.f_CoreError___init__))
  xn_InvalidNumber_value : PySem.W.findIn K (.ref a.c_InvalidNumber) "value" = some none
  g_InvalidSource : mg "InvalidSource" = some (.ref a.c_InvalidSource)
  x_InvalidSource : OexC K a.c_InvalidSource
  xi_InvalidSource : PySem.W.findIn K (.ref a.c_InvalidSource) "__init__" = some (some (.ref a.f_CoreError___init__))
  xn_InvalidSource_value : PySem.W.findIn K (.ref a.c_InvalidSource) "value" = some none
  g_UnknownNumber : mg "UnknownNumber" = some (.ref a.c_UnknownNumber)
  g_HasRead : mg "HasRead" = some (.ref a.c_HasRead)
  g_IsKnown : mg "IsKnown" = some (.ref a.c_IsKnown)
  g_NoRoom : mg "NoRoom" = some (.ref a.c_NoRoom)
  g_NotOldest : mg "NotOldest" = some (.ref a.c_NotOldest)
  g_Queues : mg "Queues" = some (.ref a.c_Queues)
  c_Queues : Cls K a.c_Queues
  n_Queues_own_load_rooms : NoAttr K a.c_Queues "own_load_rooms"
  n_Queues_own_store_rooms : NoAttr K a.c_Queues "own_store_rooms"
  n_Queues_own_loads : NoAttr K a.c_Queues "own_loads"
  n_Queues_own_stores : NoAttr K a.c_Queues "own_stores"
  i_Queues : InsTy K a.c_Queues
  is_Queues : PySem.W.notFirst K a.c_Queues (.ref a.c_Queues) = true
  io_Queues : PySem.W.kitOne K (.ref a.c_Queues) (.ref a.c_Queues) = some true
  k_Queues : Mk K a.c_Queues a.f_Queues___init__
  F_CoreError___init__ : Fun K "__init__" "CoreError.__init__" s_CoreError___init__ a.f_CoreError___init__ a.d_CoreError___init__
  b_CoreError___init__ : Binds K a.d_CoreError___init__ ["self", "value"] []
  xt_CoreError___init__ : PySem.W.typeIn K (.ref a.f_CoreError___init__) = some (.type "function")
  m_is_integer : mg "is_integer" = some (.ref a.f_is_integer)
  F_is_integer : Fun K "is_integer" "is_integer" s_is_integer a.f_is_integer a.d_is_integer
  b_is_integer : Binds K a.d_is_integer ["value"] []
  m_is_count : mg "is_count" = some (.ref a.f_is_count)
  F_is_count : Fun K "is_count" "is_count" s_is_count a.f_is_count a.d_is_count
  b_is_count : Binds K a.d_is_count ["value"] []
  m_want_many : mg "want_many" = some (.ref a.f_want_many)
  F_want_many : Fun K "want_many" "want_many" s_want_many a.f_want_many a.d_want_many
  b_want_many : Binds K a.d_want_many ["value", "least", "most"] []
  m_is_word : mg "is_word" = some (.ref a.f_is_word)
  F_is_word : Fun K "is_word" "is_word" s_is_word a.f_is_word a.d_is_word
  b_is_word : Binds K a.d_is_word ["value"] []
  m_is_place : mg "is_place" = some (.ref a.f_is_place)
  F_is_place : Fun K "is_place" "is_place" s_is_place a.f_is_place a.d_is_place
  b_is_place : Binds K a.d_is_place ["value"] []
  m_want_word : mg "want_word" = some (.ref a.f_want_word)
  F_want_word : Fun K "want_word" "want_word" s_want_word a.f_want_word a.d_want_word
  b_want_word : Binds K a.d_want_word ["value"] []
  m_want_place : mg "want_place" = some (.ref a.f_want_place)
  F_want_place : Fun K "want_place" "want_place" s_want_place a.f_want_place a.d_want_place
  b_want_place : Binds K a.d_want_place ["value"] []
  F_Queues___init__ : Fun K "__init__" "Queues.__init__" s_Queues___init__ a.f_Queues___init__ a.d_Queues___init__
  b_Queues___init__ : Binds K a.d_Queues___init__ ["self", "loads", "stores"] []
  F_Queues_all_numbers : Fun K "all_numbers" "Queues.all_numbers" s_Queues_all_numbers a.f_Queues_all_numbers a.d_Queues_all_numbers
  b_Queues_all_numbers : Binds K a.d_Queues_all_numbers ["self"] []
  M_Queues_all_numbers : Meth K a.c_Queues "all_numbers" a.f_Queues_all_numbers
  F_Queues_source_of : Fun K "source_of" "Queues.source_of" s_Queues_source_of a.f_Queues_source_of a.d_Queues_source_of
  b_Queues_source_of : Binds K a.d_Queues_source_of ["self", "number", "place"] []
  M_Queues_source_of : Meth K a.c_Queues "source_of" a.f_Queues_source_of
  F_Queues_told_known : Fun K "told_known" "Queues.told_known" s_Queues_told_known a.f_Queues_told_known a.d_Queues_told_known
  b_Queues_told_known : Binds K a.d_Queues_told_known ["self", "number", "place", "word"] []
  M_Queues_told_known : Meth K a.c_Queues "told_known" a.f_Queues_told_known
  F_Queues_note_read : Fun K "note_read" "Queues.note_read" s_Queues_note_read a.f_Queues_note_read a.d_Queues_note_read
  b_Queues_note_read : Binds K a.d_Queues_note_read ["self", "number", "place", "source"] []
  M_Queues_note_read : Meth K a.c_Queues "note_read" a.f_Queues_note_read
  F_Queues_drop_from : Fun K "drop_from" "Queues.drop_from" s_Queues_drop_from a.f_Queues_drop_from a.d_Queues_drop_from
  b_Queues_drop_from : Binds K a.d_Queues_drop_from ["self", "number"] []
  M_Queues_drop_from : Meth K a.c_Queues "drop_from" a.f_Queues_drop_from
  F_Queues_leave_oldest : Fun K "leave_oldest" "Queues.leave_oldest" s_Queues_leave_oldest a.f_Queues_leave_oldest a.d_Queues_leave_oldest
  b_Queues_leave_oldest : Binds K a.d_Queues_leave_oldest ["self", "number"] []
  M_Queues_leave_oldest : Meth K a.c_Queues "leave_oldest" a.f_Queues_leave_oldest
  F_Queues_want_new : Fun K "want_new" "Queues.want_new" s_Queues_want_new a.f_Queues_want_new a.d_Queues_want_new
  b_Queues_want_new : Binds K a.d_Queues_want_new ["self", "number"] []
  M_Queues_want_new : Meth K a.c_Queues "want_new" a.f_Queues_want_new
  F_Queues_row_of : Fun K "row_of" "Queues.row_of" s_Queues_row_of a.f_Queues_row_of a.d_Queues_row_of
  b_Queues_row_of : Binds K a.d_Queues_row_of ["self", "rows", "number"] []
  M_Queues_row_of : Meth K a.c_Queues "row_of" a.f_Queues_row_of
  F_Queues_is_source : Fun K "is_source" "Queues.is_source" s_Queues_is_source a.f_Queues_is_source a.d_Queues_is_source
  b_Queues_is_source : Binds K a.d_Queues_is_source ["self", "number", "place", "value"] []
  M_Queues_is_source : Meth K a.c_Queues "is_source" a.f_Queues_is_source
  F_Queues_can_load : Fun K "can_load" "Queues.can_load" s_Queues_can_load a.f_Queues_can_load a.d_Queues_can_load
  b_Queues_can_load : Binds K a.d_Queues_can_load ["self"] []
  p_Queues_can_load : PropOf K a.c_Queues "can_load" a.p_Queues_can_load a.f_Queues_can_load
  F_Queues_can_store : Fun K "can_store" "Queues.can_store" s_Queues_can_store a.f_Queues_can_store a.d_Queues_can_store
  b_Queues_can_store : Binds K a.d_Queues_can_store ["self"] []
  p_Queues_can_store : PropOf K a.c_Queues "can_store" a.p_Queues_can_store a.f_Queues_can_store
  F_Queues_load_entered : Fun K "load_entered" "Queues.load_entered" s_Queues_load_entered a.f_Queues_load_entered a.d_Queues_load_entered
  b_Queues_load_entered : Binds K a.d_Queues_load_entered ["self", "number"] []
  M_Queues_load_entered : Meth K a.c_Queues "load_entered" a.f_Queues_load_entered
  F_Queues_store_entered : Fun K "store_entered" "Queues.store_entered" s_Queues_store_entered a.f_Queues_store_entered a.d_Queues_store_entered
  b_Queues_store_entered : Binds K a.d_Queues_store_entered ["self", "number"] []
  M_Queues_store_entered : Meth K a.c_Queues "store_entered" a.f_Queues_store_entered
  F_Queues_known : Fun K "known" "Queues.known" s_Queues_known a.f_Queues_known a.d_Queues_known
  b_Queues_known : Binds K a.d_Queues_known ["self", "number", "place", "word"] []
  M_Queues_known : Meth K a.c_Queues "known" a.f_Queues_known
  F_Queues_source : Fun K "source" "Queues.source" s_Queues_source a.f_Queues_source a.d_Queues_source
  b_Queues_source : Binds K a.d_Queues_source ["self", "number", "place"] []
  M_Queues_source : Meth K a.c_Queues "source" a.f_Queues_source
  F_Queues_read : Fun K "read" "Queues.read" s_Queues_read a.f_Queues_read a.d_Queues_read
  b_Queues_read : Binds K a.d_Queues_read ["self", "number", "place", "source"] []
  M_Queues_read : Meth K a.c_Queues "read" a.f_Queues_read
  F_Queues_leave : Fun K "leave" "Queues.leave" s_Queues_leave a.f_Queues_leave a.d_Queues_leave
  b_Queues_leave : Binds K a.d_Queues_leave ["self", "number"] []
  M_Queues_leave : Meth K a.c_Queues "leave" a.f_Queues_leave
  F_Queues_dropped : Fun K "dropped" "Queues.dropped" s_Queues_dropped a.f_Queues_dropped a.d_Queues_dropped
  b_Queues_dropped : Binds K a.d_Queues_dropped ["self", "number"] []
  M_Queues_dropped : Meth K a.c_Queues "dropped" a.f_Queues_dropped
  F_Queues_loads : Fun K "loads" "Queues.loads" s_Queues_loads a.f_Queues_loads a.d_Queues_loads
  b_Queues_loads : Binds K a.d_Queues_loads ["self"] []
  M_Queues_loads : Meth K a.c_Queues "loads" a.f_Queues_loads
  F_Queues_stores : Fun K "stores" "Queues.stores" s_Queues_stores a.f_Queues_stores a.d_Queues_stores
  b_Queues_stores : Binds K a.d_Queues_stores ["self"] []
  M_Queues_stores : Meth K a.c_Queues "stores" a.f_Queues_stores
  F_Queues___eq__ : Fun K "__eq__" "Queues.__eq__" s_Queues___eq__ a.f_Queues___eq__ a.d_Queues___eq__
  b_Queues___eq__ : Binds K a.d_Queues___eq__ ["self", "other"] []
  M_Queues___eq__ : Meth K a.c_Queues "__eq__" a.f_Queues___eq__
  m__law_pot : mg "_law_pot" = some (.ref a.f__law_pot)
  F__law_pot : Fun K "_law_pot" "_law_pot" s__law_pot a.f__law_pot a.d__law_pot
  b__law_pot : Binds K a.d__law_pot ["_law_script", "_law_k"] []
  m__law_draw : mg "_law_draw" = some (.ref a.f__law_draw)
  F__law_draw : Fun K "_law_draw" "_law_draw" s__law_draw a.f__law_draw a.d__law_draw
  b__law_draw : Binds K a.d__law_draw ["_law_pot_here", "_law_size"] []
  m__law_rows : mg "_law_rows" = some (.ref a.f__law_rows)
  F__law_rows : Fun K "_law_rows" "_law_rows" s__law_rows a.f__law_rows a.d__law_rows
  b__law_rows : Binds K a.d__law_rows ["_law_pot_here"] []
  m__law_plain : mg "_law_plain" = some (.ref a.f__law_plain)
  F__law_plain : Fun K "_law_plain" "_law_plain" s__law_plain a.f__law_plain a.d__law_plain
  b__law_plain : Binds K a.d__law_plain ["_law_rows_here"] []
  m__law_done : mg "_law_done" = some (.ref a.f__law_done)
  F__law_done : Fun K "_law_done" "_law_done" s__law_done a.f__law_done a.d__law_done
  b__law_done : Binds K a.d__law_done ["_law_queues", "_law_memory", "_law_rows_here", "_law_flight", "_law_at"] []
  m__law_read_from : mg "_law_read_from" = some (.ref a.f__law_read_from)
  F__law_read_from : Fun K "_law_read_from" "_law_read_from" s__law_read_from a.f__law_read_from a.d__law_read_from
  b__law_read_from : Binds K a.d__law_read_from ["_law_queues", "_law_number"] []
  m__law_right : mg "_law_right" = some (.ref a.f__law_right)
  F__law_right : Fun K "_law_right" "_law_right" s__law_right a.f__law_right a.d__law_right
  b__law_right : Binds K a.d__law_right ["_law_pot_here"] []
  m_law : mg "law" = some (.ref a.f_law)
  F_law : Fun K "law" "law" s_law a.f_law a.d_law
  b_law : Binds K a.d_law ["_law_script"] []
  z_abs : mg "abs" = none
  z_bool : mg "bool" = none
  z_divmod : mg "divmod" = none
  z_enumerate : mg "enumerate" = none
  z_int : mg "int" = none
  z_isinstance : mg "isinstance" = none
  z_len : mg "len" = none
  z_list : mg "list" = none
  z_max : mg "max" = none
  z_range : mg "range" = none
  z_sorted : mg "sorted" = none
  v_MOST_WORD : mg "MOST_WORD" = some (.int 65536 a.t_MOST_WORD)
  v_MOST_PLACE : mg "MOST_PLACE" = some (.int 1024 a.t_MOST_PLACE)
  v_MOST_ROOMS : mg "MOST_ROOMS" = some (.int 8 a.t_MOST_ROOMS)
local macro_rules | `(tactic| walk_at "cls") => `(tactic| first | assumption | exact Txt.c_Queues (by assumption))
local macro_rules | `(tactic| walk_at "nat") => `(tactic| first | assumption | exact Txt.n_Queues_own_load_rooms (by assumption) | exact Txt.n_Queues_own_store_rooms (by assumption) | exact Txt.n_Queues_own_loads (by assumption) | exact Txt.n_Queues_own_stores (by assumption))
def sp_law (K : PySem.W.Frag) : Sp := fun vs H Q _ => ∃ (a : Addr) (ns : List Int), vs = [.ref a] ∧ SqL K H a (ns.map V.int) ∧ ns.length ≤ 63 ∧ ∀ H', Q (.bl true) H'
instance {K : PySem.W.Frag} : Apart (kTup (kC1 (kSt (K := K)))) (kTup (kC (kSt (K := K)) (kC (kI (K := K)) (kC1 (kO (kI (K := K))))))) := apart_of (of_decide_eq_true rfl)
structure QueuesS where
  own_load_rooms : Int
  own_store_rooms : Int
  own_loads : (List (Int × (Option Int) × (Option Int)))
  own_stores : (List (Int × (Option Int) × (Option Int)))
  deriving DecidableEq
def A_Queues (K : PySem.W.Frag) (a : Ad) (r : Addr) (s : QueuesS) : HA := ex fun dx : Addr => ex fun a_own_loads : Addr => ex fun a_own_stores : Addr => all [pt r (.ins a.c_Queues dx [("own_load_rooms", .int (s.own_load_rooms)), ("own_store_rooms", .int (s.own_store_rooms)), ("own_loads", .ref a_own_loads), ("own_stores", .ref a_own_stores)]), ls (kTup (kC (kI (K := K)) (kC (kO (kI (K := K))) (kC1 (kO (kI (K := K))))))) a_own_loads s.own_loads, ls (kTup (kC (kI (K := K)) (kC (kO (kI (K := K))) (kC1 (kO (kI (K := K))))))) a_own_stores s.own_stores]
theorem Ent.o_Queues {K : PySem.W.Frag} {a : Ad} {r : Addr} {s : QueuesS} {L : List HA} {φ : Hp → Prop} (e : ∀ (dx : Addr) (a_own_loads : Addr) (a_own_stores : Addr), Ent (pt r (.ins a.c_Queues dx [("own_load_rooms", .int (s.own_load_rooms)), ("own_store_rooms", .int (s.own_store_rooms)), ("own_loads", .ref a_own_loads), ("own_stores", .ref a_own_stores)]) :: ls (kTup (kC (kI (K := K)) (kC (kO (kI (K := K))) (kC1 (kO (kI (K := K))))))) a_own_loads s.own_loads :: ls (kTup (kC (kI (K := K)) (kC (kO (kI (K := K))) (kC1 (kO (kI (K := K))))))) a_own_stores s.own_stores :: L) φ) : Ent (A_Queues K a r s :: L) φ :=
  Ent.ex fun dx => Ent.ex fun a_own_loads => Ent.ex fun a_own_stores => Ent.all (e dx a_own_loads a_own_stores)
theorem Sub.f_Queues {K : PySem.W.Frag} {a : Ad} {r : Addr} {f_own_load_rooms : Int} {f_own_store_rooms : Int} {f_own_loads : (List (Int × (Option Int) × (Option Int)))} {f_own_stores : (List (Int × (Option Int) × (Option Int)))} {L R : List HA} {dx : Addr} {a_own_loads : Addr} {a_own_stores : Addr} (e : Sub L (pt r (.ins a.c_Queues dx [("own_load_rooms", .int (f_own_load_rooms)), ("own_store_rooms", .int (f_own_store_rooms)), ("own_loads", .ref a_own_loads), ("own_stores", .ref a_own_stores)]) :: ls (kTup (kC (kI (K := K)) (kC (kO (kI (K := K))) (kC1 (kO (kI (K := K))))))) a_own_loads f_own_loads :: ls (kTup (kC (kI (K := K)) (kC (kO (kI (K := K))) (kC1 (kO (kI (K := K))))))) a_own_stores f_own_stores :: R)) : Sub L (A_Queues K a r (QueuesS.mk f_own_load_rooms f_own_store_rooms f_own_loads f_own_stores) :: R) :=
  Sub.ex dx (Sub.ex a_own_loads (Sub.ex a_own_stores (Sub.all e)))
theorem oF_Queues {K : PySem.W.Frag} {a : Ad} {r : Addr} {s : QueuesS} {L R : List HA} {f : Str} {Q : VK} (t : Take (A_Queues K a r s) L R) (e : ∀ (dx : Addr) (a_own_loads : Addr) (a_own_stores : Addr), Ent (pt r (.ins a.c_Queues dx [("own_load_rooms", .int (s.own_load_rooms)), ("own_store_rooms", .int (s.own_store_rooms)), ("own_loads", .ref a_own_loads), ("own_stores", .ref a_own_stores)]) :: ls (kTup (kC (kI (K := K)) (kC (kO (kI (K := K))) (kC1 (kO (kI (K := K))))))) a_own_loads s.own_loads :: ls (kTup (kC (kI (K := K)) (kC (kO (kI (K := K))) (kC1 (kO (kI (K := K))))))) a_own_stores s.own_stores :: R) fun H => kFld K f Q (.ref r) H) : Ent L fun H => kFld K f Q (.ref r) H := Ent.sub t (Ent.o_Queues e)
theorem oS_Queues {K : PySem.W.Frag} {a : Ad} {r : Addr} {s : QueuesS} {L R : List HA} {f : Str} {nx : L2.St → Hp → Prop} {σ : L2.St} {y : V} (t : Take (A_Queues K a r s) L R) (e : ∀ (dx : Addr) (a_own_loads : Addr) (a_own_stores : Addr), Ent (pt r (.ins a.c_Queues dx [("own_load_rooms", .int (s.own_load_rooms)), ("own_store_rooms", .int (s.own_store_rooms)), ("own_loads", .ref a_own_loads), ("own_stores", .ref a_own_stores)]) :: ls (kTup (kC (kI (K := K)) (kC (kO (kI (K := K))) (kC1 (kO (kI (K := K))))))) a_own_loads s.own_loads :: ls (kTup (kC (kI (K := K)) (kC (kO (kI (K := K))) (kC1 (kO (kI (K := K))))))) a_own_stores s.own_stores :: R) fun H => kSF K f nx σ y (.ref r) H) : Ent L fun H => kSF K f nx σ y (.ref r) H := Ent.sub t (Ent.o_Queues e)
theorem ty_Queues {K : PySem.W.Frag} {a : Ad} {r : Addr} {s : QueuesS} {L R : List HA} (t : Take (A_Queues K a r s) L R) (i : InsTy K a.c_Queues) (c : Cls K a.c_Queues) : ∀ H, Holds L H → TyX K H (.ref r) (.ref a.c_Queues) := fun H z => by
  obtain ⟨S, S1, S2, h1, _⟩ := t.to z
  obtain ⟨dx, a_own_loads, a_own_stores, h1⟩ := h1
  obtain ⟨S3, S4, h3, _⟩ := h1
  exact i.ty c h3.1
theorem ins_Queues {K : PySem.W.Frag} {a : Ad} {r : Addr} {s : QueuesS} {L R : List HA} (t : Take (A_Queues K a r s) L R) : ∀ H, Holds L H → ∃ dx fs, H r = some (.ins a.c_Queues dx fs) := fun H z => by
  obtain ⟨S, S1, S2, h1, _⟩ := t.to z
  obtain ⟨dx, a_own_loads, a_own_stores, h1⟩ := h1
  obtain ⟨S3, S4, h3, _⟩ := h1
  exact ⟨_, _, h3.1⟩
theorem hi_Queues {K : PySem.W.Frag} {a : Ad} {r : Addr} {s : QueuesS} {L R : List HA} {m : Str} (t : Take (A_Queues K a r s) L R) (h : ∀ (dx : Addr) (a_own_loads : Addr) (a_own_stores : Addr), ([("own_load_rooms", .int (s.own_load_rooms)), ("own_store_rooms", .int (s.own_store_rooms)), ("own_loads", .ref a_own_loads), ("own_stores", .ref a_own_stores)] : List (Str × V)).lookup m = none) : HasI a.c_Queues L r m := fun H z => by
  obtain ⟨S, S1, S2, h1, _⟩ := t.to z
  obtain ⟨dx, a_own_loads, a_own_stores, h1⟩ := h1
  obtain ⟨S3, S4, h3, _⟩ := h1
  exact ⟨dx, _, h3.1, h dx a_own_loads a_own_stores⟩
def m_Queues___init__ (loads : Int) (stores : Int) (k : QueuesS → Prop) : Prop :=
  grd ((1 : Int) ≤ loads ∧ loads ≤ (8 : Int) ∧ 0 ≤ loads) <|
  grd ((1 : Int) ≤ stores ∧ stores ≤ (8 : Int) ∧ 0 ≤ stores) <|
  k (QueuesS.mk loads stores ([] : (List (Int × (Option Int) × (Option Int)))) ([] : (List (Int × (Option Int) × (Option Int)))))

def m_Queues_all_numbers (self : QueuesS) (k : (List Int) → Prop) : Prop :=
  grd (self.own_loads.length ≤ 100000) <| lcL self.own_loads [] (fun x1 nx2 =>
  nx2 (some x1.1)) fun ys3 =>
  grd (self.own_stores.length ≤ 100000) <| lcL self.own_stores [] (fun x4 nx5 =>
  nx5 (some x4.1)) fun ys6 =>
  grd (ys3.length + ys6.length ≤ 100000) <|
  k (srt (ys3 ++ ys6))

def m_Queues_source_of (self : QueuesS) (number : Int) (place : Int) (k : ((Str) ⊕ (Str × Int × (Option Int))) → Prop) : Prop :=
  forL self.own_stores (.inl ("memory" : Str)) (fun x1 (m2 : ((Str) ⊕ (Str × Int × (Option Int)))) nx3 bk4 =>
  (if x1.1 < number then
  (if x1.2.1 = (some place) then
  nx3 (.inr (("store" : Str), x1.1, x1.2.2))
  else
  nx3 m2)
  else
  nx3 m2)) fun (m5 : ((Str) ⊕ (Str × Int × (Option Int)))) =>
  k m5

def m_Queues_told_known (self : QueuesS) (number : Int) (place : Int) (word : Int) (k : ((Option Int) × QueuesS) → Prop) : Prop :=
  grd (self.own_stores.length ≤ 100000) <| lcL self.own_stores [] (fun x1 nx2 =>
  (if x1.1 = number then
  nx2 (some (number, (some place), (some word)))
  else
  nx2 (some x1))) fun ys3 =>
  forL self.own_loads () (fun x4 (m5 : Unit) nx6 bk7 =>
  (if number < x4.1 then
  (if x4.2.1 = (some place) then
  (if x4.2.2.isNone = true then
  k ((some x4.1), { self with own_stores := ys3 })
  else
  obg x4.2.2 fun w9 =>
  (if w9 < number then
  k ((some x4.1), { self with own_stores := ys3 })
  else
  nx6 ()))
  else
  nx6 ())
  else
  nx6 ())) fun (m8 : Unit) =>
  k (none, { self with own_stores := ys3 })

def m_Queues_note_read (self : QueuesS) (number : Int) (place : Int) (source : (Option Int)) (k : QueuesS → Prop) : Prop :=
  grd (self.own_loads.length ≤ 100000) <| lcL self.own_loads [] (fun x1 nx2 =>
  (if x1.1 = number then
  nx2 (some (number, (some place), source))
  else
  nx2 (some x1))) fun ys3 =>
  k { self with own_loads := ys3 }

def m_Queues_drop_from (self : QueuesS) (number : Int) (k : QueuesS → Prop) : Prop :=
  grd (self.own_loads.length ≤ 100000) <| lcL self.own_loads [] (fun x1 nx2 =>
  (if x1.1 < number then
  nx2 (some x1)
  else
  nx2 none)) fun ys3 =>
  grd (self.own_stores.length ≤ 100000) <| lcL self.own_stores [] (fun x4 nx5 =>
  (if x4.1 < number then
  nx5 (some x4)
  else
  nx5 none)) fun ys6 =>
  k { self with own_loads := ys3, own_stores := ys6 }

def m_Queues_leave_oldest (self : QueuesS) (number : Int) (k : QueuesS → Prop) : Prop :=
  grd (self.own_loads.length ≤ 100000) <| lcL self.own_loads [] (fun x1 nx2 =>
  (if x1.1 = number then
  nx2 none
  else
  nx2 (some x1))) fun ys3 =>
  grd (self.own_stores.length ≤ 100000) <| lcL self.own_stores [] (fun x4 nx5 =>
  (if x4.1 = number then
  nx5 none
  else
  nx5 (some x4))) fun ys6 =>
  k { self with own_loads := ys3, own_stores := ys6 }

def m_Queues_want_new (self : QueuesS) (number : Int) (k : Unit → Prop) : Prop :=
  (if 0 ≤ number then
  m_Queues_all_numbers self fun r1 =>
  (if r1 = ([] : (List Int)) then
  k ()
  else
  m_Queues_all_numbers self fun r2 =>
  obx (atI r2 (-(1 : Int))) fun w3 =>
  (if number ≤ w3 then
  False
  else
  k ()))
  else
  False)

def m_Queues_row_of (rows : (List (Int × (Option Int) × (Option Int)))) (number : Int) (k : (Int × (Option Int) × (Option Int)) → Prop) : Prop :=
  grd (rows.length ≤ 100000) <| lcL rows [] (fun x1 nx2 =>
  (if 0 ≤ number then
  (if x1.1 = number then
  nx2 (some x1)
  else
  nx2 none)
  else
  nx2 none)) fun ys3 =>
  (if ys3 = ([] : (List (Int × (Option Int) × (Option Int)))) then
  False
  else
  obx (atI ys3 (0 : Int)) fun w4 =>
  k w4)

def m_Queues_is_source (self : QueuesS) (number : Int) (place : Int) (value : (Option Int)) (k : Bool → Prop) : Prop :=
  (if value.isNone = true then
  k true
  else
  grd (self.own_stores.length ≤ 100000) <| lcL self.own_stores [] (fun x1 nx2 =>
  obg value fun w4 =>
  (if 0 ≤ w4 then
  (if (some x1.1) = value then
  nx2 (some x1)
  else
  nx2 none)
  else
  nx2 none)) fun ys3 =>
  (if ys3 = ([] : (List (Int × (Option Int) × (Option Int)))) then
  k false
  else
  obx (atI ys3 (0 : Int)) fun w5 =>
  (if w5.2.1 = (some place) then
  obg value fun w6 =>
  k (decide (w6 < number))
  else
  k false)))

def m_Queues_can_load (self : QueuesS) (k : Bool → Prop) : Prop :=
  k (decide ((self.own_loads.length : Int) < self.own_load_rooms))

def m_Queues_can_store (self : QueuesS) (k : Bool → Prop) : Prop :=
  k (decide ((self.own_stores.length : Int) < self.own_store_rooms))

def m_Queues_load_entered (self : QueuesS) (number : Int) (k : QueuesS → Prop) : Prop :=
  m_Queues_want_new self number fun r1 =>
  m_Queues_can_load self fun r2 =>
  (if r2 = true then
  grd (self.own_loads.length + ([(number, none, none)] : (List (Int × (Option Int) × (Option Int)))).length ≤ 100000) <|
  k { self with own_loads := (self.own_loads ++ ([(number, none, none)] : (List (Int × (Option Int) × (Option Int))))) }
  else
  False)

def m_Queues_store_entered (self : QueuesS) (number : Int) (k : QueuesS → Prop) : Prop :=
  m_Queues_want_new self number fun r1 =>
  m_Queues_can_store self fun r2 =>
  (if r2 = true then
  grd (self.own_stores.length + ([(number, none, none)] : (List (Int × (Option Int) × (Option Int)))).length ≤ 100000) <|
  k { self with own_stores := (self.own_stores ++ ([(number, none, none)] : (List (Int × (Option Int) × (Option Int))))) }
  else
  False)

def m_Queues_known (self : QueuesS) (number : Int) (place : Int) (word : Int) (k : ((Option Int) × QueuesS) → Prop) : Prop :=
  m_Queues_row_of self.own_stores number fun r1 =>
  grd (0 ≤ place ∧ place < 1024) <|
  grd (W16 word) <|
  (if r1.2.1.isNone = true then
  m_Queues_told_known self number place word fun r2 =>
  k (r2.1, r2.2)
  else
  False)

def m_Queues_source (self : QueuesS) (number : Int) (place : Int) (k : ((Str) ⊕ (Str × Int × (Option Int))) → Prop) : Prop :=
  m_Queues_row_of self.own_loads number fun r1 =>
  grd (0 ≤ place ∧ place < 1024) <|
  m_Queues_source_of self number place fun r2 =>
  k r2

def m_Queues_read (self : QueuesS) (number : Int) (place : Int) (source : (Option Int)) (k : QueuesS → Prop) : Prop :=
  m_Queues_row_of self.own_loads number fun r1 =>
  grd (0 ≤ place ∧ place < 1024) <|
  m_Queues_is_source self number place source fun r2 =>
  (if r2 = true then
  (if r1.2.1.isNone = true then
  m_Queues_note_read self number place source fun r3 =>
  k r3
  else
  False)
  else
  False)

def m_Queues_leave (self : QueuesS) (number : Int) (k : QueuesS → Prop) : Prop :=
  grd (self.own_loads.length + self.own_stores.length ≤ 100000) <|
  m_Queues_row_of (self.own_loads ++ self.own_stores) number fun r1 =>
  m_Queues_all_numbers self fun r2 =>
  obx (atI r2 (0 : Int)) fun w3 =>
  (if w3 = number then
  m_Queues_leave_oldest self number fun r4 =>
  k r4
  else
  False)

def m_Queues_dropped (self : QueuesS) (number : Int) (k : QueuesS → Prop) : Prop :=
  (if 0 ≤ number then
  m_Queues_drop_from self number fun r1 =>
  k r1
  else
  False)

def m_Queues_loads (self : QueuesS) (k : (List (Int × (Option Int) × (Option Int))) → Prop) : Prop :=
  k self.own_loads

def m_Queues_stores (self : QueuesS) (k : (List (Int × (Option Int) × (Option Int))) → Prop) : Prop :=
  k self.own_stores

def m__law_rows  (k : (List (Bool × Int × Int)) → Prop) : Prop :=
  drw (5 : Int) fun d1 =>
  grd (-100000000 ≤ ((5 : Int) + d1) ∧ ((5 : Int) + d1) < 100000000) <| forL (rgI 0 ((5 : Int) + d1).toNat) ([] : (List (Bool × Int × Int))) (fun x2 (m3 : (List (Bool × Int × Int))) nx4 bk5 =>
  drw (2 : Int) fun d7 =>
  drw (3 : Int) fun d8 =>
  drw (10 : Int) fun d9 =>
  grd (m3.length ≤ 100000) <|
  nx4 (m3 ++ [((eqb d7 (0 : Int)), d8, (((10 : Int) * (x2 + (1 : Int))) + d9))])) fun (m6 : (List (Bool × Int × Int))) =>
  k m6

def m__law_plain (rows_here : (List (Bool × Int × Int))) (k : ((List (Option Int)) × (List Int)) → Prop) : Prop :=
  forL rows_here (([(1 : Int), (2 : Int), (3 : Int)] : (List Int)), ([] : (List (Option Int)))) (fun x1 (m2 : (List Int) × (List (Option Int))) nx3 bk4 =>
  jn (fun (m6 : (List Int)) =>
  jn (fun (r8 : (Option Int)) =>
  grd (m2.2.length ≤ 100000) <|
  nx3 (m6, (m2.2 ++ [r8]))) fun jp9 =>
  (if x1.1 = true then
  jp9 none
  else
  obx (atI m6 x1.2.1) fun w10 =>
  jp9 (some w10))) fun jp7 =>
  (if x1.1 = true then
  obx (ixN m2.1.length x1.2.1) fun j11 =>
  jp7 (m2.1.set j11 x1.2.2)
  else
  jp7 m2.1)) fun (m5 : (List Int) × (List (Option Int))) =>
  k (m5.2, m5.1)

def m__law_read_from (queues : QueuesS) (number : Int) (k : (Option Int) → Prop) : Prop :=
  m_Queues_loads queues fun r1 =>
  forL r1 () (fun x2 (m3 : Unit) nx4 bk5 =>
  (if x2.1 = number then
  (if x2.2.2.isNone = true then
  nx4 ()
  else
  k x2.2.2)
  else
  nx4 ())) fun (m6 : Unit) =>
  k (some (-(1 : Int)))

def m__law_done (queues : QueuesS) (memory : (List Int)) (rows_here : (List (Bool × Int × Int))) (flight : (List (Int × Int × Bool × (Option Int)))) (at_ : Int) (k : ((Option Int) × QueuesS × (List (Int × Int × Bool × (Option Int)))) → Prop) : Prop :=
  obx (atI flight at_) fun w1 =>
  obx (atI rows_here w1.1) fun w2 =>
  (if w2.1 = true then
  obx (ixN flight.length at_) fun j3 =>
  m_Queues_known queues w1.2.1 w2.2.1 w2.2.2 fun r4 =>
  grd ((cutA (flight.set j3 (w1.1, w1.2.1, true, none)) (some (at_ + (1 : Int))) none).length ≤ 100000) <| lcL (cutA (flight.set j3 (w1.1, w1.2.1, true, none)) (some (at_ + (1 : Int))) none) [] (fun x5 nx6 =>
  (if x5.2.2.1 = true then
  obx (atI rows_here x5.1) fun w8 =>
  (if w8.1 = true then
  nx6 none
  else
  obx (atI rows_here x5.1) fun w9 =>
  (if w9.2.1 = w2.2.1 then
  nx6 (some x5.2.1)
  else
  nx6 none))
  else
  nx6 none)) fun ys7 =>
  grd (ys7.length ≤ 100000) <| lcL ys7 [] (fun x10 nx11 =>
  m__law_read_from r4.2 x10 fun r13 =>
  obg r13 fun w14 =>
  (if w14 < w1.2.1 then
  nx11 (some x10)
  else
  nx11 none)) fun ys12 =>
  jn (fun (r15 : (Option Int)) =>
  (if r4.1 = r15 then
  k (r4.1, r4.2, (flight.set j3 (w1.1, w1.2.1, true, none)))
  else
  k ((some (-(1 : Int))), r4.2, (flight.set j3 (w1.1, w1.2.1, true, none))))) fun jp16 =>
  (if ys12 = ([] : (List Int)) then
  jp16 none
  else
  obx (atI ys12 (0 : Int)) fun w17 =>
  jp16 (some w17))
  else
  m_Queues_source queues w1.2.1 w2.2.1 fun r18 =>
  jn (fun (c19 : Bool) =>
  (if c19 = true then
  k ((some (-(1 : Int))), queues, flight)
  else
  jn (fun (r21 : (Option Int)) =>
  jn (fun (r23 : (Option Int)) =>
  m_Queues_read queues w1.2.1 w2.2.1 r23 fun r25 =>
  obx (ixN flight.length at_) fun j26 =>
  k (none, r25, (flight.set j26 (w1.1, w1.2.1, true, r21)))) fun jp24 =>
  (if r18 = (.inl ("memory" : Str)) then
  jp24 none
  else
  obu1 r18 fun w27 =>
  jp24 (some w27.2.1))) fun jp22 =>
  (if r18 = (.inl ("memory" : Str)) then
  obx (atI memory w2.2.1) fun w28 =>
  jp22 (some w28)
  else
  obu1 r18 fun w29 =>
  jp22 w29.2.2))) fun jp20 =>
  (if r18 = (.inl ("memory" : Str)) then
  jp20 false
  else
  obu1 r18 fun w30 =>
  jp20 (decide (w1.2.1 < w30.2.1))))

def m__law_right  (k : Bool → Prop) : Prop :=
  m__law_rows  fun r1 =>
  m__law_plain r1 fun r2 =>
  drw (4 : Int) fun d3 =>
  drw (4 : Int) fun d4 =>
  m_Queues___init__ ((1 : Int) + d3) ((1 : Int) + d4) fun r5 =>
  grd (-100000 ≤ (r1.length : Int) ∧ (r1.length : Int) ≤ 100000 ∧ ([none] : (List (Option Int))).length ≤ 100) <|
  grd (-100000000 ≤ (160 : Int) ∧ (160 : Int) < 100000000) <| forL (rgI 0 (160 : Int).toNat) (r5, ([(1 : Int), (2 : Int), (3 : Int)] : (List Int)), ([] : (List (Int × Int × Bool × (Option Int)))), (0 : Int), (0 : Int), (List.replicate (r1.length : Int).toNat ([none] : (List (Option Int)))).flatten) (fun x6 (m7 : QueuesS × (List Int) × (List (Int × Int × Bool × (Option Int))) × Int × Int × (List (Option Int))) nx8 bk9 =>
  grd (m7.2.2.1.length ≤ 100000) <| lcL (enI m7.2.2.1) [] (fun x11 nx12 =>
  (if x11.2.2.2.1 = true then
  nx12 none
  else
  nx12 (some x11.1))) fun ys13 =>
  jn (fun (r14 : Int) =>
  jn (fun (r16 : Bool) =>
  jn (fun (c18 : Bool) =>
  (if c18 = true then
  jn (fun (m20 : QueuesS) =>
  grd (m7.2.2.1.length ≤ 100000) <|
  nx8 (m20, m7.2.1, (m7.2.2.1 ++ [(m7.2.2.2.1, m7.2.2.2.2.1, false, none)]), (m7.2.2.2.1 + (1 : Int)), (m7.2.2.2.2.1 + (1 : Int)), m7.2.2.2.2.2)) fun jp21 =>
  obx (atI r1 m7.2.2.2.1) fun w22 =>
  (if w22.1 = true then
  m_Queues_store_entered m7.1 m7.2.2.2.2.1 fun r23 =>
  jp21 r23
  else
  m_Queues_load_entered m7.1 m7.2.2.2.2.1 fun r24 =>
  jp21 r24)
  else
  jn (fun (c25 : Bool) =>
  (if c25 = true then
  obx (atI m7.2.2.1 (0 : Int)) fun w27 =>
  jn (fun (m28 : (List Int)) =>
  obx (ixN m7.2.2.2.2.2.length w27.1) fun j30 =>
  m_Queues_leave m7.1 w27.2.1 fun r31 =>
  nx8 (r31, m28, (cutA m7.2.2.1 (some (1 : Int)) none), m7.2.2.2.1, m7.2.2.2.2.1, (m7.2.2.2.2.2.set j30 w27.2.2.2))) fun jp29 =>
  obx (atI r1 w27.1) fun w32 =>
  (if w32.1 = true then
  obx (atI r1 w27.1) fun w33 =>
  obx (atI r1 w27.1) fun w34 =>
  obx (ixN m7.2.1.length w34.2.1) fun j35 =>
  jp29 (m7.2.1.set j35 w33.2.2)
  else
  jp29 m7.2.1)
  else
  (if ys13 = ([] : (List Int)) then
  nx8 (m7.1, m7.2.1, m7.2.2.1, m7.2.2.2.1, m7.2.2.2.2.1, m7.2.2.2.2.2)
  else
  jn (fun (r36 : Int) =>
  m__law_done m7.1 m7.2.1 r1 m7.2.2.1 r36 fun r38 =>
  (if r38.1 = (some (-(1 : Int))) then
  k false
  else
  (if r38.1.isNone = true then
  nx8 (r38.2.1, m7.2.1, r38.2.2, m7.2.2.2.1, m7.2.2.2.2.1, m7.2.2.2.2.2)
  else
  grd (r38.2.2.length ≤ 100000) <| lcL r38.2.2 [] (fun x39 nx40 =>
  (if (some x39.2.1) = r38.1 then
  nx40 (some x39.1)
  else
  nx40 none)) fun ys41 =>
  obx (atI ys41 (0 : Int)) fun w42 =>
  obg r38.1 fun w43 =>
  m_Queues_dropped r38.2.1 w43 fun r44 =>
  grd (r38.2.2.length ≤ 100000) <| lcL r38.2.2 [] (fun x45 nx46 =>
  obg r38.1 fun w48 =>
  (if x45.2.1 < w48 then
  nx46 (some x45)
  else
  nx46 none)) fun ys47 =>
  nx8 (r44, m7.2.1, ys47, w42, m7.2.2.2.2.1, m7.2.2.2.2.2)))) fun jp37 =>
  (if x6 < (100 : Int) then
  drw (9 : Int) fun d49 =>
  grd (0 < (ys13.length : Int)) <|
  obx (atI ys13 (d49 % (ys13.length : Int))) fun w50 =>
  jp37 w50
  else
  obx (atI ys13 (0 : Int)) fun w51 =>
  jp37 w51)))) fun jp26 =>
  (if m7.2.2.1 = ([] : (List (Int × Int × Bool × (Option Int)))) then
  jp26 false
  else
  obx (atI m7.2.2.1 (0 : Int)) fun w52 =>
  (if w52.2.2.1 = true then
  (if r14 = (3 : Int) then
  jp26 true
  else
  jp26 (eqb ys13 ([] : (List Int))))
  else
  jp26 false)))) fun jp19 =>
  (if r16 = true then
  (if r14 < (2 : Int) then
  jp19 true
  else
  jp19 (eqb m7.2.2.1 ([] : (List (Int × Int × Bool × (Option Int))))))
  else
  jp19 false)) fun jp17 =>
  (if m7.2.2.2.1 < (r1.length : Int) then
  jn (fun (r53 : Bool) =>
  jp17 r53) fun jp54 =>
  obx (atI r1 m7.2.2.2.1) fun w55 =>
  (if w55.1 = true then
  m_Queues_can_store m7.1 fun r56 =>
  jp54 r56
  else
  m_Queues_can_load m7.1 fun r57 =>
  jp54 r57)
  else
  jp17 false)) fun jp15 =>
  (if x6 < (100 : Int) then
  drw (4 : Int) fun d58 =>
  jp15 d58
  else
  jp15 (3 : Int))) fun (m10 : QueuesS × (List Int) × (List (Int × Int × Bool × (Option Int))) × Int × Int × (List (Option Int))) =>
  (if m10.2.2.2.2.2 = r2.1 then
  (if m10.2.1 = r2.2 then
  (if m10.2.2.1 = ([] : (List (Int × Int × Bool × (Option Int)))) then
  k (eqb m10.2.2.2.1 (r1.length : Int))
  else
  k false)
  else
  k false)
  else
  k false)

def m_law (script : (List Int)) (k : Bool → Prop) : Prop :=
  m__law_right  fun r1 =>
  k r1

structure Ea where
  spot : Nat
  num : Int
  st : Bool
  p : Int
  w : Int
  dn : Bool
  got : Option Int
  src : Option Int
def fl (a : Ea) : Int × Int × Bool × Option Int := ((a.spot : Int), a.num, a.dn, a.got)
def ldr (a : Ea) : Int × Option Int × Option Int := (a.num, if a.dn then some a.p else none, if a.dn then a.src else none)
def svr (a : Ea) : Int × Option Int × Option Int := (a.num, if a.dn then some a.p else none, if a.dn then some a.w else none)
def lds (A : List Ea) : List (Int × Option Int × Option Int) := (A.filter fun a => !a.st).map ldr
def svs (A : List Ea) : List (Int × Option Int × Option Int) := (A.filter fun a => a.st).map svr
def Qu (lr sr : Int) (A : List Ea) : QueuesS := ⟨lr, sr, lds A, svs A⟩
def Asc (A : List Ea) : Prop := A.Pairwise fun a b => a.num < b.num
theorem lds_app {A B : List Ea} : lds (A ++ B) = lds A ++ lds B := by simp [lds]
theorem svs_app {A B : List Ea} : svs (A ++ B) = svs A ++ svs B := by simp [svs]
theorem lds_cons {a : Ea} {B : List Ea} : lds (a :: B) = (if a.st then [] else [ldr a]) ++ lds B := by unfold lds; by_cases h : a.st <;> simp [h]
theorem svs_cons {a : Ea} {B : List Ea} : svs (a :: B) = (if a.st then [svr a] else []) ++ svs B := by unfold svs; by_cases h : a.st <;> simp [h]
theorem lds_len {A : List Ea} : (lds A).length ≤ A.length := by unfold lds; rw [List.length_map]; exact List.length_filter_le _ _
theorem svs_len {A : List Ea} : (svs A).length ≤ A.length := by unfold svs; rw [List.length_map]; exact List.length_filter_le _ _
theorem both_perm (A : List Ea) : ((lds A).map (·.1) ++ (svs A).map (·.1)).Perm (A.map (·.num)) := by
  induction A with
  | nil => exact List.Perm.refl _
  | cons a A ih =>
    rw [lds_cons, svs_cons]
    by_cases h : a.st
    · simp only [h, if_true, List.nil_append, List.map_append, List.map_cons, List.map_nil, svr]
      exact List.perm_middle.trans (ih.cons _)
    · simp only [h, if_false, List.nil_append, List.map_append, List.map_cons, List.map_nil, ldr, Bool.false_eq_true, List.cons_append]
      exact ih.cons _
theorem Asc.le {A : List Ea} (h : Asc A) : (A.map (·.num)).Pairwise (· ≤ ·) := List.pairwise_map.mpr (h.imp fun z => Int.le_of_lt z)
theorem Asc.nodup {A : List Ea} (h : Asc A) : (A.map (·.num)).Nodup := List.pairwise_map.mpr (h.imp fun z e => by omega)
section
variable {lr sr : Int} {A : List Ea}
theorem all_eq (h : Asc A) (hl : A.length ≤ 50000) {k : List Int → Prop} : m_Queues_all_numbers (Qu lr sr A) k = k (A.map (·.num)) := by
  have l1 := lds_len (A := A)
  have l2 := svs_len (A := A)
  unfold m_Queues_all_numbers Qu
  simp only
  rw [grd_true (by omega), lcL_some (fun x : Int × Option Int × Option Int => x.1), grd_true (by omega), lcL_some (fun x : Int × Option Int × Option Int => x.1)]
  simp only [List.nil_append]
  rw [grd_true (by rw [List.length_map, List.length_map]; omega), srt_eq ((both_perm A).symm) h.le]
theorem new_eq (h : Asc A) (hl : A.length ≤ 50000) {n : Int} (hn : ∀ a ∈ A, a.num < n) (h0 : 0 ≤ n) {k : Unit → Prop} : m_Queues_want_new (Qu lr sr A) n k = k () := by
  unfold m_Queues_want_new
  rw [if_pos h0, all_eq h hl]
  by_cases e : A = []
  · subst e; exact if_pos rfl
  · rw [if_neg (by simpa using e), all_eq h hl]
    obtain ⟨B, b, rfl⟩ : ∃ B b, A = B ++ [b] := ⟨A.dropLast, A.getLast e, (List.dropLast_concat_getLast e).symm⟩
    rw [List.map_append]
    have : atI (List.map (fun x => x.num) B ++ List.map (fun x => x.num) [b]) (-1) = some b.num := atI_m1
    rw [this, obx_some, if_neg (by have := hn b (by simp); omega)]
theorem filter_one {xs : List (Int × Option Int × Option Int)} (hn : (xs.map (·.1)).Nodup) {r : Int × Option Int × Option Int} (hr : r ∈ xs) : xs.filter (fun x => decide (x.1 = r.1)) = [r] := by
  induction xs with
  | nil => cases hr
  | cons x xs ih =>
    rw [List.map_cons, List.nodup_cons] at hn
    rcases List.mem_cons.mp hr with rfl | hr
    · rw [List.filter_cons_of_pos (by simp)]
      congr 1
      refine List.filter_eq_nil_iff.mpr fun y hy z => hn.1 ?_
      rw [← of_decide_eq_true z]
      exact List.mem_map_of_mem hy
    · rw [List.filter_cons_of_neg ?_, ih hn.2 hr]
      intro z
      refine hn.1 ?_
      rw [of_decide_eq_true z]
      exact List.mem_map_of_mem hr
theorem row_eq {xs : List (Int × Option Int × Option Int)} (hl : xs.length ≤ 100000) (hn : (xs.map (·.1)).Nodup) {r : Int × Option Int × Option Int} (hr : r ∈ xs) {n : Int} (h0 : 0 ≤ n) (e : r.1 = n) {k : Int × Option Int × Option Int → Prop} : m_Queues_row_of xs n k = k r := by
  subst e
  unfold m_Queues_row_of
  rw [grd_true hl]
  simp only [if_pos h0]
  rw [lcL_filter, filter_one hn hr, List.nil_append, if_neg (by simp), atI_0, obx_some]
theorem lds_nodup (h : Asc A) : ((lds A).map (·.1)).Nodup := ((both_perm A).nodup_iff.mpr h.nodup).sublist (List.sublist_append_left ..)
theorem svs_nodup (h : Asc A) : ((svs A).map (·.1)).Nodup := ((both_perm A).nodup_iff.mpr h.nodup).sublist (List.sublist_append_right ..)
theorem mem_lds {a : Ea} (h : a ∈ A) (hs : a.st = false) : ldr a ∈ lds A := List.mem_map_of_mem (List.mem_filter.mpr ⟨h, by simp [hs]⟩)
theorem mem_svs {a : Ea} (h : a ∈ A) (hs : a.st = true) : svr a ∈ svs A := List.mem_map_of_mem (List.mem_filter.mpr ⟨h, hs⟩)
end
/-- the last store of this place that is known, its number and word -/
def lk (m : Option (Int × Int)) (l : List Ea) (p : Int) : Option (Int × Int) := l.foldl (fun m b => if b.st = true ∧ b.dn = true ∧ b.p = p then some (b.num, b.w) else m) m
theorem lk_or (m : Option (Int × Int)) (l : List Ea) (p : Int) : lk m l p = (lk none l p).or m := by
  induction l generalizing m with
  | nil => simp [lk]
  | cons b l ih =>
    show lk (if _ then _ else _) l p = (lk (if _ then _ else _) l p).or m
    by_cases h : b.st = true ∧ b.dn = true ∧ b.p = p
    · rw [if_pos h, if_pos h, ih, Option.or_assoc]; simp
    · rw [if_neg h, if_neg h, ih]
theorem lk_app (m : Option (Int × Int)) (l l' : List Ea) (p : Int) : lk m (l ++ l') p = lk (lk m l p) l' p := by simp [lk]
theorem lk_mem {l : List Ea} {p n w : Int} (h : lk none l p = some (n, w)) : ∃ b ∈ l, b.st = true ∧ b.dn = true ∧ b.p = p ∧ b.num = n ∧ b.w = w := by
  induction l with
  | nil => simp [lk] at h
  | cons b l ih =>
    have h : lk (if b.st = true ∧ b.dn = true ∧ b.p = p then some (b.num, b.w) else none) l p = some (n, w) := h
    rw [lk_or] at h
    cases e : lk none l p with
    | some z =>
      rw [e] at h
      obtain ⟨c, hc, z⟩ := ih (by rw [e]; simpa using h)
      exact ⟨c, List.mem_cons_of_mem _ hc, z⟩
    | none =>
      rw [e] at h
      by_cases q : b.st = true ∧ b.dn = true ∧ b.p = p
      · rw [if_pos q] at h
        simp at h
        exact ⟨b, List.mem_cons_self, q.1, q.2.1, q.2.2, h.1, h.2⟩
      · rw [if_neg q] at h; simp at h
def enc : Option (Int × Int) → Str ⊕ (Str × Int × Option Int)
  | none => .inl "memory"
  | some (n, w) => .inr ("store", n, some w)
theorem source_fold (l : List Ea) (p n : Int) (m : Option (Int × Int)) (hn : ∀ b ∈ l, b.num < n) (hp : True) :
    (svs l).foldl (fun (m2 : Str ⊕ (Str × Int × Option Int)) (x1 : Int × Option Int × Option Int) => if x1.1 < n then (if x1.2.1 = some p then .inr ("store", x1.1, x1.2.2) else m2) else m2) (enc m) = enc (lk m l p) := by
  induction l generalizing m with
  | nil => rfl
  | cons b l ih =>
    have hb := hn b List.mem_cons_self
    have ih := fun m => ih m fun c hc => hn c (List.mem_cons_of_mem _ hc)
    rw [svs_cons]
    show _ = enc (lk (if _ then _ else _) l p)
    by_cases hs : b.st = true
    · rw [if_pos hs, List.singleton_append, List.foldl_cons, svr]
      simp only
      rw [if_pos hb]
      by_cases hd : b.dn = true
      · simp only [hd, if_true]
        by_cases e : b.p = p
        · rw [if_pos (by rw [e]), if_pos ⟨hs, trivial, e⟩]
          exact ih (some (b.num, b.w))
        · rw [if_neg (by simpa using e), if_neg (fun z => e z.2.2)]
          exact ih _
      · simp only [hd, if_false, Bool.false_eq_true]
        rw [if_neg (by simp), if_neg (by simp)]
        exact ih _
    · rw [if_neg hs, List.nil_append, if_neg (fun z => hs z.1)]
      exact ih _
theorem source_late (l : List Ea) (p n : Int) (m : Str ⊕ (Str × Int × Option Int)) (hn : ∀ b ∈ l, n ≤ b.num) :
    (svs l).foldl (fun (m2 : Str ⊕ (Str × Int × Option Int)) (x1 : Int × Option Int × Option Int) => if x1.1 < n then (if x1.2.1 = some p then .inr ("store", x1.1, x1.2.2) else m2) else m2) m = m := by
  have key : ∀ (xs : List (Int × Option Int × Option Int)) , (∀ x ∈ xs, n ≤ x.1) → xs.foldl (fun (m2 : Str ⊕ (Str × Int × Option Int)) (x1 : Int × Option Int × Option Int) => if x1.1 < n then (if x1.2.1 = some p then .inr ("store", x1.1, x1.2.2) else m2) else m2) m = m := by
    intro xs
    induction xs with
    | nil => intro _; rfl
    | cons x xs ih =>
      intro h
      rw [List.foldl_cons, if_neg (by have := h x List.mem_cons_self; omega)]
      exact ih fun y hy => h y (List.mem_cons_of_mem _ hy)
  refine key _ fun x hx => ?_
  obtain ⟨a, ha, rfl⟩ := List.mem_map.mp hx
  exact hn a (List.mem_filter.mp ha).1
section
variable {lr sr : Int} {pre post : List Ea} {a : Ea}
theorem Asc.split (h : Asc (pre ++ a :: post)) : (∀ b ∈ pre, b.num < a.num) ∧ (∀ b ∈ post, a.num < b.num) ∧ Asc pre ∧ Asc post := by
  obtain ⟨h1, h2, h3⟩ := List.pairwise_append.mp h
  obtain ⟨h4, h5⟩ := List.pairwise_cons.mp h2
  exact ⟨fun b hb => h3 b hb a List.mem_cons_self, h4, h1, h5⟩
theorem source_of_eq (h : Asc (pre ++ a :: post)) {p : Int} {k : Str ⊕ (Str × Int × Option Int) → Prop} : m_Queues_source_of (Qu lr sr (pre ++ a :: post)) a.num p k = k (enc (lk none pre p)) := by
  obtain ⟨h1, h2, _, _⟩ := h.split
  unfold m_Queues_source_of
  rw [forL_fold (fun (m2 : Str ⊕ (Str × Int × Option Int)) (x1 : Int × Option Int × Option Int) => if x1.1 < a.num then (if x1.2.1 = some p then .inr ("store", x1.1, x1.2.2) else m2) else m2) (fun x _ m nx => by by_cases q : x.1 < a.num <;> by_cases r : x.2.1 = some p <;> simp [q, r])]
  show k ((svs (pre ++ a :: post)).foldl _ (enc none)) = _
  rw [svs_app, List.foldl_append, source_fold pre p a.num none h1 trivial, source_late (a :: post) p a.num _ (fun b hb => by
    rcases List.mem_cons.mp hb with rfl | hb
    · exact Int.le_refl _
    · exact Int.le_of_lt (h2 b hb))]
theorem source_eq (h : Asc (pre ++ a :: post)) (hl : (pre ++ a :: post).length ≤ 50000) (hs : a.st = false) (h0 : 0 ≤ a.num) {p : Int} (hp : 0 ≤ p ∧ p < 1024) {k : Str ⊕ (Str × Int × Option Int) → Prop} : m_Queues_source (Qu lr sr (pre ++ a :: post)) a.num p k = k (enc (lk none pre p)) := by
  show m_Queues_row_of (lds (pre ++ a :: post)) a.num _ = _
  have l1 := lds_len (A := pre ++ a :: post)
  rw [row_eq (r := ldr a) (by show (lds _).length ≤ _; omega) (lds_nodup h) (mem_lds (by simp) hs) h0 rfl, grd_true hp, source_of_eq h]
end
theorem map_keep {xs : List (Int × Option Int × Option Int)} {n : Int} {r : Int × Option Int × Option Int} (h : ∀ x ∈ xs, x.1 ≠ n) : xs.map (fun x => if x.1 = n then r else x) = xs := by
  induction xs with
  | nil => rfl
  | cons x xs ih => rw [List.map_cons, if_neg (h x List.mem_cons_self), ih fun y hy => h y (List.mem_cons_of_mem _ hy)]
theorem num_lds {A : List Ea} {x : Int × Option Int × Option Int} (h : x ∈ lds A) : ∃ a ∈ A, a.st = false ∧ ldr a = x := by
  obtain ⟨a, ha, e⟩ := List.mem_map.mp h
  have := List.mem_filter.mp ha
  exact ⟨a, this.1, by simpa using this.2, e⟩
theorem num_svs {A : List Ea} {x : Int × Option Int × Option Int} (h : x ∈ svs A) : ∃ a ∈ A, a.st = true ∧ svr a = x := by
  obtain ⟨a, ha, e⟩ := List.mem_map.mp h
  have := List.mem_filter.mp ha
  exact ⟨a, this.1, by simpa using this.2, e⟩
section
variable {lr sr : Int} {pre post : List Ea} {a b : Ea}
theorem upd_lds (h : Asc (pre ++ a :: post)) (hs : a.st = false) (hb : b.st = false) : (lds (pre ++ a :: post)).map (fun x => if x.1 = a.num then ldr b else x) = lds (pre ++ b :: post) := by
  obtain ⟨h1, h2, _, _⟩ := h.split
  rw [lds_app, lds_app, lds_cons, lds_cons, List.map_append, List.map_append, if_neg (by simp [hs]), if_neg (by simp [hb])]
  rw [map_keep (xs := lds pre) fun x hx z => by obtain ⟨c, hc, _, rfl⟩ := num_lds hx; exact Int.ne_of_lt (h1 c hc) z]
  rw [map_keep (xs := lds post) fun x hx z => by obtain ⟨c, hc, _, rfl⟩ := num_lds hx; exact Int.ne_of_gt (h2 c hc) z]
  simp [ldr]
theorem upd_svs (h : Asc (pre ++ a :: post)) (hs : a.st = true) (hb : b.st = true) : (svs (pre ++ a :: post)).map (fun x => if x.1 = a.num then svr b else x) = svs (pre ++ b :: post) := by
  obtain ⟨h1, h2, _, _⟩ := h.split
  rw [svs_app, svs_app, svs_cons, svs_cons, List.map_append, List.map_append, if_pos hs, if_pos hb]
  rw [map_keep (xs := svs pre) fun x hx z => by obtain ⟨c, hc, _, rfl⟩ := num_svs hx; exact Int.ne_of_lt (h1 c hc) z]
  rw [map_keep (xs := svs post) fun x hx z => by obtain ⟨c, hc, _, rfl⟩ := num_svs hx; exact Int.ne_of_gt (h2 c hc) z]
  simp [svr]
theorem same_lds (hs : a.st = true) (hb : b.st = true) : lds (pre ++ a :: post) = lds (pre ++ b :: post) := by
  rw [lds_app, lds_app, lds_cons, lds_cons, if_pos hs, if_pos hb]
theorem same_svs (hs : a.st = false) (hb : b.st = false) : svs (pre ++ a :: post) = svs (pre ++ b :: post) := by
  rw [svs_app, svs_app, svs_cons, svs_cons, if_neg (by simp [hs]), if_neg (by simp [hb])]
/-- `read` of the place where the load's word is -/
theorem read_eq (h : Asc (pre ++ a :: post)) (hl : (pre ++ a :: post).length ≤ 50000) (hs : a.st = false) (hd : a.dn = false) (h0 : ∀ c ∈ pre ++ a :: post, 0 ≤ c.num) (hp : 0 ≤ a.p ∧ a.p < 1024) {g : Option Int} {k : QueuesS → Prop} :
    m_Queues_read (Qu lr sr (pre ++ a :: post)) a.num a.p ((lk none pre a.p).map (·.1)) k = k (Qu lr sr (pre ++ { a with dn := true, got := g, src := (lk none pre a.p).map (·.1) } :: post)) := by
  have l1 := lds_len (A := pre ++ a :: post)
  have l2 := svs_len (A := pre ++ a :: post)
  have is : ∀ k : Bool → Prop, m_Queues_is_source (Qu lr sr (pre ++ a :: post)) a.num a.p ((lk none pre a.p).map (·.1)) k = k true := by
    intro k
    unfold m_Queues_is_source
    cases e : lk none pre a.p with
    | none => rfl
    | some z =>
      obtain ⟨n, w⟩ := z
      obtain ⟨c, hc, hcs, hcd, hcp, hcn, _⟩ := lk_mem e
      have hm : c ∈ pre ++ a :: post := by simp [hc]
      show (if false = true then k true else grd ((svs (pre ++ a :: post)).length ≤ 100000) <| lcL (svs (pre ++ a :: post)) [] _ _) = _
      rw [if_neg (by simp), grd_true (by omega)]
      simp only [Option.map_some, obg_some]
      have e3 : ∀ x : Int × Option Int × Option Int, (some x.1 = some n) = (x.1 = n) := fun x => by simp
      simp only [if_pos (show 0 ≤ n by rw [← hcn]; exact h0 c hm), e3]
      rw [lcL_filter]
      have : (svs (pre ++ a :: post)).filter (fun x => decide (x.1 = n)) = [svr c] := by
        have := filter_one (svs_nodup h) (mem_svs hm hcs)
        rw [show (svr c).1 = n from hcn] at this
        exact this
      rw [this, List.nil_append, if_neg (by simp), atI_0, obx_some, if_pos (by simp [svr, hcd, hcp])]
      rw [decide_eq_true (by rw [← hcn]; exact h.split.1 c hc)]
  show m_Queues_row_of (lds (pre ++ a :: post)) a.num _ = _
  rw [row_eq (r := ldr a) (by omega) (lds_nodup h) (mem_lds (by simp) hs) (h0 a (by simp)) rfl, grd_true hp, is, if_pos rfl, if_pos (by simp [ldr, hd])]
  show grd ((lds (pre ++ a :: post)).length ≤ 100000) (lcL (lds (pre ++ a :: post)) [] _ _) = _
  rw [grd_true (by omega), lcL_map (fun x => some (if x.1 = a.num then (a.num, some a.p, (lk none pre a.p).map (·.1)) else x)) (fun x _ nx => by by_cases q : x.1 = a.num <;> simp [q])]
  rw [List.nil_append, List.filterMap_eq_map', show (fun x : Int × Option Int × Option Int => if x.1 = a.num then (a.num, some a.p, (lk none pre a.p).map (·.1)) else x) = fun x => if x.1 = a.num then ldr { a with dn := true, got := g, src := (lk none pre a.p).map (·.1) } else x from rfl, upd_lds (b := { a with dn := true, got := g, src := (lk none pre a.p).map (·.1) }) h hs hs]
  congr 1
  show QueuesS.mk _ _ _ (svs _) = _
  rw [same_svs (b := { a with dn := true, got := g, src := (lk none pre a.p).map (·.1) }) hs hs]
  rfl
/-- the loads that have read too early -/
def bad (p n : Int) (b : Ea) : Bool := !b.st && b.dn && decide (b.p = p) && (match b.src with | none => true | some s => decide (s < n))
def early (post : List Ea) (p n : Int) : Option Int := (post.find? (bad p n)).map (·.num)
theorem told_late (l : List Ea) (p n : Int) (k : Option Int → Prop) (hn : ∀ c ∈ l, n < c.num) : forL (lds l) () (fun x4 (m5 : Unit) nx6 _ => if n < x4.1 then (if x4.2.1 = some p then (if x4.2.2.isNone = true then k (some x4.1) else obg x4.2.2 fun w9 => (if w9 < n then k (some x4.1) else nx6 ())) else nx6 ()) else nx6 ()) (fun _ => k none) = k (early l p n) := by
  induction l with
  | nil => rfl
  | cons c l ih =>
    have ih := ih fun d hd => hn d (List.mem_cons_of_mem _ hd)
    have hc := hn c List.mem_cons_self
    rw [lds_cons]
    unfold early
    rw [List.find?_cons]
    by_cases hs : c.st = true
    · rw [if_pos hs, List.nil_append, ih]
      simp [bad, hs, early]
    · rw [if_neg hs, List.singleton_append, forL_cons, if_pos (show n < (ldr c).1 from hc)]
      by_cases hd : c.dn = true
      · by_cases e : c.p = p
        · rw [if_pos (by simp [ldr, hd, e])]
          cases es : c.src with
          | none => simp [ldr, hd, es, bad, hs, e]
          | some s =>
            by_cases q : s < n
            · simp [ldr, hd, es, bad, hs, e, obg_some, q]
            · simp only [ldr, hd, es, obg_some, q, if_true, if_false, Option.isNone_some, Bool.false_eq_true]
              rw [ih]
              simp [bad, hs, hd, e, es, q, early]
        · rw [if_neg (by simp [ldr, hd, e])]
          refine ih.trans ?_
          simp [bad, e, early]
      · rw [if_neg (by simp [ldr, hd])]
        refine ih.trans ?_
        simp [bad, hd, early]
end

theorem told_soon (l : List Ea) (xs : List (Int × Option Int × Option Int)) (p n : Int) (k : Option Int → Prop) (hn : ∀ c ∈ l, c.num ≤ n) (kn : Unit → Prop) : forL (lds l ++ xs) () (fun x4 (m5 : Unit) nx6 _ => if n < x4.1 then (if x4.2.1 = some p then (if x4.2.2.isNone = true then k (some x4.1) else obg x4.2.2 fun w9 => (if w9 < n then k (some x4.1) else nx6 ())) else nx6 ()) else nx6 ()) kn
    = forL xs () (fun x4 (m5 : Unit) nx6 _ => if n < x4.1 then (if x4.2.1 = some p then (if x4.2.2.isNone = true then k (some x4.1) else obg x4.2.2 fun w9 => (if w9 < n then k (some x4.1) else nx6 ())) else nx6 ()) else nx6 ()) kn := by
  induction l with
  | nil => rfl
  | cons c l ih =>
    have ih := ih fun d hd => hn d (List.mem_cons_of_mem _ hd)
    have hc := hn c List.mem_cons_self
    rw [lds_cons]
    by_cases hs : c.st = true
    · rw [if_pos hs, List.nil_append, ih]
    · rw [if_neg hs, List.singleton_append, List.cons_append, forL_cons, if_neg (show ¬ n < (ldr c).1 from by simp only [ldr]; omega)]
      exact ih
section
variable {lr sr : Int} {pre post : List Ea} {a b : Ea}
/-- `known` of a store whose word was not known -/
theorem known_eq (h : Asc (pre ++ a :: post)) (hl : (pre ++ a :: post).length ≤ 50000) (hs : a.st = true) (hd : a.dn = false) (h0 : 0 ≤ a.num) (hp : 0 ≤ a.p ∧ a.p < 1024) (hw : W16 a.w) {k : Option Int × QueuesS → Prop} :
    m_Queues_known (Qu lr sr (pre ++ a :: post)) a.num a.p a.w k = k (early post a.p a.num, Qu lr sr (pre ++ { a with dn := true, got := none } :: post)) := by
  have l1 := lds_len (A := pre ++ a :: post)
  have l2 := svs_len (A := pre ++ a :: post)
  obtain ⟨h1, h2, _, _⟩ := h.split
  show m_Queues_row_of (svs (pre ++ a :: post)) a.num _ = _
  rw [row_eq (r := svr a) (by omega) (svs_nodup h) (mem_svs (by simp) hs) h0 rfl, grd_true hp, grd_true hw, if_pos (by simp [svr, hd])]
  show grd ((svs (pre ++ a :: post)).length ≤ 100000) (lcL (svs (pre ++ a :: post)) [] _ _) = _
  rw [grd_true (by omega), lcL_map (fun x => some (if x.1 = a.num then (a.num, some a.p, some a.w) else x)) (fun x _ nx => by by_cases q : x.1 = a.num <;> simp [q])]
  rw [List.nil_append, List.filterMap_eq_map', show (fun x : Int × Option Int × Option Int => if x.1 = a.num then (a.num, some a.p, some a.w) else x) = fun x => if x.1 = a.num then svr { a with dn := true, got := none } else x from rfl, upd_svs (b := { a with dn := true, got := none }) h hs hs]
  show forL (lds (pre ++ a :: post)) () _ _ = _
  have eQ : QueuesS.mk lr sr (lds (pre ++ a :: post)) (svs (pre ++ { a with dn := true, got := none } :: post)) = Qu lr sr (pre ++ { a with dn := true, got := none } :: post) := by unfold Qu; rw [same_lds (b := { a with dn := true, got := none }) hs hs]
  have eL : lds (pre ++ a :: post) = lds pre ++ lds post := by rw [lds_app, lds_cons, if_pos hs, List.nil_append]
  rw [← eQ]
  refine Eq.trans (congrArg (fun z => forL z () _ _) eL) ?_
  refine (told_soon pre (lds post) a.p a.num (fun o => k (o, QueuesS.mk lr sr (lds (pre ++ a :: post)) (svs (pre ++ { a with dn := true, got := none } :: post)))) (fun c hc => Int.le_of_lt (h1 c hc)) _).trans ?_
  exact told_late post a.p a.num (fun o => k (o, QueuesS.mk lr sr (lds (pre ++ a :: post)) (svs (pre ++ { a with dn := true, got := none } :: post)))) h2
theorem filter_all {xs : List (Int × Option Int × Option Int)} {q : Int × Option Int × Option Int → Bool} (h : ∀ x ∈ xs, q x = true) : xs.filter q = xs := List.filter_eq_self.mpr h
theorem filter_no {xs : List (Int × Option Int × Option Int)} {q : Int × Option Int × Option Int → Bool} (h : ∀ x ∈ xs, q x = false) : xs.filter q = [] := List.filter_eq_nil_iff.mpr fun x hx => by simp [h x hx]
theorem leave_eq (h : Asc (a :: post)) (hl : (a :: post).length ≤ 50000) (h0 : 0 ≤ a.num) {k : QueuesS → Prop} : m_Queues_leave (Qu lr sr (a :: post)) a.num k = k (Qu lr sr post) := by
  have l1 := lds_len (A := a :: post)
  have l2 := svs_len (A := a :: post)
  obtain ⟨_, h2, _, _⟩ := Asc.split (pre := []) h
  show grd ((lds (a :: post)).length + (svs (a :: post)).length ≤ 100000) (m_Queues_row_of (lds (a :: post) ++ svs (a :: post)) a.num _) = _
  rw [grd_true (by omega)]
  have nd : ((lds (a :: post) ++ svs (a :: post)).map (·.1)).Nodup := by rw [List.map_append]; exact (both_perm _).nodup_iff.mpr h.nodup
  have : ∃ r ∈ lds (a :: post) ++ svs (a :: post), r.1 = a.num := by
    by_cases hs : a.st = true
    · exact ⟨svr a, List.mem_append_right _ (mem_svs (by simp) hs), rfl⟩
    · exact ⟨ldr a, List.mem_append_left _ (mem_lds (by simp) (by simpa using hs)), rfl⟩
  obtain ⟨r, hr, e⟩ := this
  rw [row_eq (by rw [List.length_append]; omega) nd hr h0 e, all_eq h hl, List.map_cons, atI_0, obx_some, if_pos rfl]
  show grd ((lds (a :: post)).length ≤ 100000) (lcL (lds (a :: post)) [] _ _) = _
  rw [grd_true (by omega), lcL_filterN]
  show grd ((svs (a :: post)).length ≤ 100000) (lcL (svs (a :: post)) [] _ _) = _
  rw [grd_true (by omega), lcL_filterN, List.nil_append, List.nil_append]
  have f1 : (lds post).filter (fun x => decide ¬ x.1 = a.num) = lds post := filter_all fun x hx => by obtain ⟨c, hc, _, rfl⟩ := num_lds hx; have := h2 c hc; exact decide_eq_true (show ¬ c.num = a.num by omega)
  have f2 : (svs post).filter (fun x => decide ¬ x.1 = a.num) = svs post := filter_all fun x hx => by obtain ⟨c, hc, _, rfl⟩ := num_svs hx; have := h2 c hc; exact decide_eq_true (show ¬ c.num = a.num by omega)
  rw [lds_cons, svs_cons, List.filter_append, List.filter_append, f1, f2]
  by_cases hs : a.st = true
  · rw [if_pos hs, if_pos hs]; simp [svr]; rfl
  · rw [if_neg hs, if_neg hs]; simp [ldr]; rfl
theorem dropped_eq (h : Asc (pre ++ a :: post)) (hl : (pre ++ a :: post).length ≤ 50000) (h0 : 0 ≤ a.num) {k : QueuesS → Prop} : m_Queues_dropped (Qu lr sr (pre ++ a :: post)) a.num k = k (Qu lr sr pre) := by
  have l1 := lds_len (A := pre ++ a :: post)
  have l2 := svs_len (A := pre ++ a :: post)
  obtain ⟨h1, h2, _, _⟩ := h.split
  have h3 : ∀ c ∈ a :: post, a.num ≤ c.num := fun c hc => by
    rcases List.mem_cons.mp hc with rfl | hc
    · exact Int.le_refl _
    · exact Int.le_of_lt (h2 c hc)
  unfold m_Queues_dropped
  rw [if_pos h0]
  show grd ((lds (pre ++ a :: post)).length ≤ 100000) (lcL (lds (pre ++ a :: post)) [] _ _) = _
  rw [grd_true (by omega), lcL_filter]
  show grd ((svs (pre ++ a :: post)).length ≤ 100000) (lcL (svs (pre ++ a :: post)) [] _ _) = _
  rw [grd_true (by omega), lcL_filter, List.nil_append, List.nil_append, lds_app, svs_app, List.filter_append, List.filter_append]
  rw [filter_all (xs := lds pre) fun x hx => by obtain ⟨c, hc, _, rfl⟩ := num_lds hx; exact decide_eq_true (h1 c hc)]
  rw [filter_no (xs := lds (a :: post)) fun x hx => by obtain ⟨c, hc, _, rfl⟩ := num_lds hx; exact decide_eq_false (by have := h3 c hc; simp only [ldr]; omega)]
  rw [filter_all (xs := svs pre) fun x hx => by obtain ⟨c, hc, _, rfl⟩ := num_svs hx; exact decide_eq_true (h1 c hc)]
  rw [filter_no (xs := svs (a :: post)) fun x hx => by obtain ⟨c, hc, _, rfl⟩ := num_svs hx; exact decide_eq_false (by have := h3 c hc; simp only [svr]; omega)]
  rw [List.append_nil, List.append_nil]
  rfl
/-- what the law asks of where a load has read -/
theorem read_from_eq {A : List Ea} {c : Ea} (h : Asc A) (hc : c ∈ A) (hs : c.st = false) (hd : c.dn = true) {k : Option Int → Prop} : m__law_read_from (Qu lr sr A) c.num k = k (some (c.src.getD (-1))) := by
  show forL (lds A) () _ _ = _
  have hm := mem_lds hc hs
  have nd := lds_nodup h
  generalize lds A = xs at hm nd
  induction xs with
  | nil => cases hm
  | cons x xs ih =>
    rw [forL_cons]
    rw [List.map_cons, List.nodup_cons] at nd
    have skip : ∀ ys : List (Int × Option Int × Option Int), (∀ y ∈ ys, y.1 ≠ c.num) → forL ys () (fun x2 (m3 : Unit) nx4 bk5 => (if x2.1 = c.num then (if x2.2.2.isNone = true then nx4 () else k x2.2.2) else nx4 ())) (fun _ => k (some (-1))) = k (some (-1)) := by
      intro ys
      induction ys with
      | nil => intro _; rfl
      | cons y ys ih =>
        intro q
        rw [forL_cons, if_neg (q y List.mem_cons_self)]
        exact ih fun z hz => q z (List.mem_cons_of_mem _ hz)
    rcases List.mem_cons.mp hm with rfl | hm
    · rw [if_pos (show (ldr c).1 = c.num from rfl)]
      cases e : c.src with
      | none =>
        rw [if_pos (by simp [ldr, e])]
        refine skip xs fun y hy z => nd.1 ?_
        rw [show (ldr c).1 = y.1 from z.symm]
        exact List.mem_map_of_mem hy
      | some s => rw [if_neg (by simp [ldr, e, hd])]; simp [ldr, e, hd]
    · rw [if_neg fun z => nd.1 (by rw [z]; exact List.mem_map_of_mem (f := (·.1)) hm)]
      exact ih hm nd.2
end
structure RowsOk (R : List (Bool × Int × Int)) : Prop where
  lo : 5 ≤ R.length
  hi : R.length ≤ 9
  p : ∀ x ∈ R, 0 ≤ x.2.1 ∧ x.2.1 < 3
  w : ∀ x ∈ R, W16 x.2.2
def memAt (R : List (Bool × Int × Int)) : Nat → List Int
  | 0 => [1, 2, 3]
  | i + 1 => match R[i]? with
    | some (true, p, w) => (memAt R i).set p.toNat w
    | _ => memAt R i
def dueR (R : List (Bool × Int × Int)) (i : Nat) : Option Int := match R[i]? with
  | some (false, p, _) => (memAt R i)[p.toNat]?
  | _ => none
theorem memAt_len {R : List (Bool × Int × Int)} (i : Nat) : (memAt R i).length = 3 := by
  induction i with
  | zero => rfl
  | succ i ih =>
    rw [memAt]
    split
    · rw [List.length_set]; exact ih
    · exact ih
theorem atI_at {xs : List Int} {p : Int} (h : 0 ≤ p ∧ p < xs.length) : ∃ x, xs[p.toNat]? = some x ∧ atI xs p = some x := by
  have : p.toNat < xs.length := by omega
  exact ⟨xs[p.toNat], List.getElem?_eq_getElem this, atI_of h.1 (List.getElem?_eq_getElem this)⟩
theorem plain_ok {R : List (Bool × Int × Int)} (hR : RowsOk R) {k : List (Option Int) × List Int → Prop} (h : k ((List.range R.length).map (dueR R), memAt R R.length)) : m__law_plain R k := by
  unfold m__law_plain
  refine forL_inv (fun i (m : List Int × List (Option Int)) => m.1 = memAt R i ∧ m.2 = (List.range i).map (dueR R)) ⟨rfl, rfl⟩ ?_ ?_
  · intro i x m nx e ⟨h1, h2⟩ q
    obtain ⟨st, p, w⟩ := x
    obtain ⟨mem, told⟩ := m
    simp only at h1 h2
    subst h1 h2
    have hp := hR.p _ (List.mem_of_getElem? e)
    have hi := (List.getElem?_eq_some_iff.mp e).1
    have hh := hR.hi
    simp only [jn_eq]
    cases st with
    | true =>
      simp only [if_true]
      rw [ixN_of hp.1 (by rw [memAt_len]; exact hp.2), obx_some, grd_true (by simp; omega)]
      refine q _ ⟨?_, ?_⟩
      · simp only [memAt, e]
      · simp only [List.range_succ, List.map_append, List.map_cons, List.map_nil, dueR, e]
    | false =>
      simp only [if_false, Bool.false_eq_true]
      obtain ⟨y, y1, y2⟩ := atI_at (xs := memAt R i) (p := p) (by rw [memAt_len]; exact hp)
      rw [y2, obx_some, grd_true (by simp; omega)]
      refine q _ ⟨?_, ?_⟩
      · simp only [memAt, e]
      · simp only [List.range_succ, List.map_append, List.map_cons, List.map_nil, dueR, e, y1]
  · intro m ⟨h1, h2⟩
    rw [h1, h2]
    exact h
theorem rows_ok {k : List (Bool × Int × Int) → Prop} (h : ∀ R, RowsOk R → k R) : m__law_rows k := by
  unfold m__law_rows
  refine drw_ok (by omega) fun d d0 d1 => ⟨by omega, ?_⟩
  refine forL_inv (fun i (m : List (Bool × Int × Int)) => m.length = i ∧ ∀ x ∈ m, (0 ≤ x.2.1 ∧ x.2.1 < 3) ∧ W16 x.2.2) ⟨rfl, by simp⟩ ?_ ?_
  · intro i x m nx e ⟨h1, h2⟩ q
    have hx := (mem_rgI.mp (List.mem_of_getElem? e))
    have hi := (List.getElem?_eq_some_iff.mp e).1
    rw [rgI_len] at hi
    refine drw_ok (by omega) fun d2 d20 d21 => drw_ok (by omega) fun d3 d30 d31 => drw_ok (by omega) fun d4 d40 d41 => ?_
    rw [grd_true (by omega)]
    refine q _ ⟨by simp [h1], fun y hy => ?_⟩
    rcases List.mem_append.mp hy with hy | hy
    · exact h2 y hy
    · rw [List.mem_singleton.mp hy]
      exact ⟨⟨d30, d31⟩, by unfold W16; simp only; omega⟩
  · intro m ⟨h1, h2⟩
    rw [rgI_len] at h1
    exact h m ⟨by omega, by omega, fun x hx => (h2 x hx).1, fun x hx => (h2 x hx).2⟩
section
variable {lr sr : Int} {pre post : List Ea} {a : Ea} {R : List (Bool × Int × Int)} {mem : List Int}
theorem fl_at : atI ((pre ++ a :: post).map fl) (pre.length : Int) = some (fl a) := atI_of (by omega) (by simp)
theorem row_at {A : List Ea} (h : ∀ a ∈ A, R[a.spot]? = some (a.st, a.p, a.w)) {b : Ea} (hb : b ∈ A) : atI R (b.spot : Int) = some (b.st, b.p, b.w) := atI_of (by omega) (by simpa using h b hb)
theorem fl_set {b : Ea} : ((pre ++ a :: post).map fl).set pre.length (fl b) = (pre ++ b :: post).map fl := by
  rw [List.map_append, List.map_append, List.set_append_right _ _ (by simp)]
  simp
/-- the entry when it is done -/
def dnE (pre : List Ea) (mem : List Int) (a : Ea) : Ea :=
  if a.st = true then { a with dn := true, got := none }
  else { a with dn := true, got := (match lk none pre a.p with | some (_, w) => some w | none => mem[a.p.toNat]?), src := (lk none pre a.p).map (·.1) }
def earlyE (post : List Ea) (a : Ea) : Option Int := if a.st = true then early post a.p a.num else none
theorem due_eq {B : List Ea} {p : Int} (hr : ∀ a' ∈ B, R[a'.spot]? = some (a'.st, a'.p, a'.w)) {kk : List Int → Prop} :
    lcL (B.map fl) [] (fun x5 nx6 => (if x5.2.2.1 = true then obx (atI R x5.1) fun w8 => (if w8.1 = true then nx6 none else obx (atI R x5.1) fun w9 => (if w9.2.1 = p then nx6 (some x5.2.1) else nx6 none)) else nx6 none)) kk
    = kk ((B.filter fun b => b.dn && !b.st && decide (b.p = p)).map (·.num)) := by
  have key : ∀ (B : List Ea) (acc : List Int), (∀ a' ∈ B, R[a'.spot]? = some (a'.st, a'.p, a'.w)) → lcL (B.map fl) acc (fun x5 nx6 => (if x5.2.2.1 = true then obx (atI R x5.1) fun w8 => (if w8.1 = true then nx6 none else obx (atI R x5.1) fun w9 => (if w9.2.1 = p then nx6 (some x5.2.1) else nx6 none)) else nx6 none)) kk
    = kk (acc ++ (B.filter fun b => b.dn && !b.st && decide (b.p = p)).map (·.num)) := by
    intro B
    induction B with
    | nil => intro acc _; simp [lcL]
    | cons b B ih =>
      intro acc hB
      have ih := fun acc => ih acc fun c hc => hB c (List.mem_cons_of_mem _ hc)
      rw [List.map_cons, lcL]
      have e := row_at hB (b := b) List.mem_cons_self
      simp only [fl] at e ⊢
      rw [e]
      simp only [obx_some]
      by_cases hd : b.dn = true
      · by_cases hs : b.st = true
        · simp only [hd, hs, if_true, Option.toList_none, List.append_nil]
          refine (ih acc).trans ?_
          simp [hd, hs]
        · by_cases hp : b.p = p
          · simp only [hd, hs, hp, if_true, if_false, Option.toList_some]
            refine (ih _).trans ?_
            simp [hd, hs, hp]
          · simp only [hd, hs, hp, if_true, if_false, Option.toList_none, List.append_nil]
            refine (ih _).trans ?_
            simp [hd, hs, hp]
      · simp only [hd, if_false, Option.toList_none, List.append_nil]
        refine (ih _).trans ?_
        simp [hd]
  exact (key B [] hr).trans (by rw [List.nil_append])
theorem wrong_eq {A B : List Ea} {p n : Int} (h : Asc A) (hB : ∀ b ∈ B, b ∈ A) (h0 : 0 ≤ n) {kk : List Int → Prop} :
    lcL ((B.filter fun b => b.dn && !b.st && decide (b.p = p)).map (·.num)) [] (fun x10 nx11 => m__law_read_from (Qu lr sr A) x10 fun r13 => obg r13 fun w14 => (if w14 < n then nx11 (some x10) else nx11 none)) kk = kk ((B.filter (bad p n)).map (·.num)) := by
  have key : ∀ (B : List Ea) (acc : List Int), (∀ b ∈ B, b ∈ A) → lcL ((B.filter fun b => b.dn && !b.st && decide (b.p = p)).map (·.num)) acc (fun x10 nx11 => m__law_read_from (Qu lr sr A) x10 fun r13 => obg r13 fun w14 => (if w14 < n then nx11 (some x10) else nx11 none)) kk = kk (acc ++ (B.filter (bad p n)).map (·.num)) := by
    intro B
    induction B with
    | nil => intro acc _; simp [lcL]
    | cons b B ih =>
      intro acc hB
      have ih := fun acc => ih acc fun c hc => hB c (List.mem_cons_of_mem _ hc)
      by_cases q : b.dn = true ∧ b.st = false ∧ b.p = p
      · obtain ⟨q1, q2, q3⟩ := q
        rw [List.filter_cons_of_pos (by simp [q1, q2, q3]), List.map_cons, lcL, read_from_eq h (hB b List.mem_cons_self) q2 q1, obg_some]
        cases es : b.src with
        | none =>
          rw [if_pos (by simp; omega)]
          simp only [Option.toList_some]
          refine (ih _).trans ?_
          rw [List.filter_cons_of_pos (by simp [bad, q1, q2, q3, es])]
          simp
        | some s =>
          by_cases z : s < n
          · rw [if_pos (by simpa using z)]
            simp only [Option.toList_some]
            refine (ih _).trans ?_
            rw [List.filter_cons_of_pos (by simp [bad, q1, q2, q3, es, z])]
            simp
          · rw [if_neg (by simpa using z)]
            simp only [Option.toList_none, List.append_nil]
            refine (ih _).trans ?_
            rw [List.filter_cons_of_neg (by simp [bad, q1, q2, q3, es, z])]
      · rw [List.filter_cons_of_neg (by simpa [and_assoc] using q)]
        refine (ih _).trans ?_
        rw [List.filter_cons_of_neg ?_]
        intro z
        simp [bad] at z
        exact q ⟨z.1.1.2, z.1.1.1, z.1.2⟩
  exact (key B [] hB).trans (by rw [List.nil_append])
theorem drop_mid {α : Type} {b : α} : ∀ {xs ys : List α}, (xs ++ b :: ys).drop (xs.length + 1) = ys
  | [], ys => rfl
  | x :: xs, ys => by rw [List.cons_append, List.length_cons, List.drop_succ_cons, drop_mid]
theorem done_store (h : Asc (pre ++ a :: post)) (hl : (pre ++ a :: post).length ≤ 50000) (h0 : 0 ≤ a.num) (hr : ∀ a' ∈ pre ++ a :: post, R[a'.spot]? = some (a'.st, a'.p, a'.w)) (hR : RowsOk R) (hs : a.st = true) (hd : a.dn = false)
    {k : Option Int × QueuesS × List (Int × Int × Bool × Option Int) → Prop} :
    m__law_done (Qu lr sr (pre ++ a :: post)) mem R ((pre ++ a :: post).map fl) (pre.length : Int) k = k (early post a.p a.num, Qu lr sr (pre ++ { a with dn := true, got := none } :: post), (pre ++ { a with dn := true, got := none } :: post).map fl) := by
  have ha := List.mem_of_getElem? (hr a (by simp))
  have hp := hR.p _ ha
  have hw := hR.w _ ha
  have hlen : (pre ++ a :: post).length = pre.length + (post.length + 1) := by simp
  have hasc : Asc (pre ++ { a with dn := true, got := none } :: post) := by
    unfold Asc at h ⊢
    rw [← List.pairwise_map (f := fun x : Ea => x.num) (R := (· < ·))] at h ⊢
    simpa using h
  unfold m__law_done
  rw [fl_at, obx_some]
  simp only [fl]
  rw [row_at hr (by simp), obx_some]
  simp only
  rw [if_pos hs, ixN_of (by omega) (by rw [List.length_map]; omega), obx_some, known_eq h hl hs hd h0 ⟨hp.1, Int.lt_trans hp.2 (by decide)⟩ hw]
  have e1 : (List.map fl (pre ++ a :: post)).set (pre.length : Int).toNat ((a.spot : Int), a.num, true, none) = (pre ++ { a with dn := true, got := none } :: post).map fl := fl_set (b := { a with dn := true, got := none })
  rw [e1]
  have e2 : cutA ((pre ++ { a with dn := true, got := none } :: post).map fl) (some ((pre.length : Int) + 1)) none = post.map fl := by
    rw [cutA_from (by omega), ← List.map_drop]
    congr 1
    rw [show ((pre.length : Int) + 1).toNat = pre.length + 1 by omega, drop_mid]
  rw [e2, grd_true (by rw [List.length_map]; omega)]
  rw [due_eq (R := R) (p := a.p) (B := post) (fun c hc => hr c (by simp [hc])), grd_true (by rw [List.length_map]; exact Nat.le_trans (List.length_filter_le _ _) (by omega))]
  dsimp only
  refine (wrong_eq (lr := lr) (sr := sr) (p := a.p) (B := post) hasc (fun c hc => by simp [hc]) h0).trans ?_
  simp only [jn_eq]
  unfold early
  rw [← List.head?_filter]
  cases e : post.filter (bad a.p a.num) with
  | nil => simp
  | cons c B => simp [atI_0, obx_some]
theorem done_load (h : Asc (pre ++ a :: post)) (hl : (pre ++ a :: post).length ≤ 50000) (h0 : ∀ c ∈ pre ++ a :: post, 0 ≤ c.num) (hr : ∀ a' ∈ pre ++ a :: post, R[a'.spot]? = some (a'.st, a'.p, a'.w)) (hR : RowsOk R) (hs : a.st = false) (hd : a.dn = false)
    (hm : mem.length = 3) {k : Option Int × QueuesS × List (Int × Int × Bool × Option Int) → Prop} :
    m__law_done (Qu lr sr (pre ++ a :: post)) mem R ((pre ++ a :: post).map fl) (pre.length : Int) k = k (none, Qu lr sr (pre ++ dnE pre mem a :: post), (pre ++ dnE pre mem a :: post).map fl) := by
  have ha := List.mem_of_getElem? (hr a (by simp))
  have hp : 0 ≤ a.p ∧ a.p < 3 := hR.p _ ha
  have hlen : (pre ++ a :: post).length = pre.length + (post.length + 1) := by simp
  unfold m__law_done
  rw [fl_at, obx_some]
  simp only [fl]
  rw [row_at hr (by simp), obx_some]
  simp only [jn_eq]
  rw [if_neg (by simp [hs]), source_eq h hl hs (h0 a (by simp)) (by omega)]
  have rd := fun g k => read_eq (lr := lr) (sr := sr) (g := g) (k := k) h hl hs hd h0 (by omega)
  have ix : ixN (List.map fl (pre ++ a :: post)).length (pre.length : Int) = some pre.length := by
    rw [ixN_of (by omega) (by rw [List.length_map]; omega)]; rfl
  cases e : lk none pre a.p with
  | none =>
    simp only [enc, if_true, Bool.false_eq_true, if_false]
    obtain ⟨y, y1, y2⟩ := atI_at (xs := mem) (p := a.p) (by omega)
    rw [y2, obx_some]
    have := rd (some y)
    rw [e] at this
    simp only [Option.map_none] at this
    rw [this, ix, obx_some]
    have e1 : (List.map fl (pre ++ a :: post)).set pre.length ((a.spot : Int), a.num, true, some y) = (pre ++ { a with dn := true, got := some y, src := none } :: post).map fl := fl_set (b := { a with dn := true, got := some y, src := none })
    rw [e1]
    simp only [dnE, hs, e, y1, Bool.false_eq_true, if_false, Option.map_none]
  | some z =>
    obtain ⟨n, w⟩ := z
    obtain ⟨c, hc, _, _, _, hcn, _⟩ := lk_mem e
    have hn : ¬ a.num < n := by have := h.split.1 c hc; omega
    simp only [enc, reduceCtorEq, if_false, obu1_r, hn, decide_false, Bool.false_eq_true]
    have := rd (some w)
    rw [e] at this
    simp only [Option.map_some] at this
    rw [this, ix, obx_some]
    have e1 : (List.map fl (pre ++ a :: post)).set pre.length ((a.spot : Int), a.num, true, some w) = (pre ++ { a with dn := true, got := some w, src := some n } :: post).map fl := fl_set (b := { a with dn := true, got := some w, src := some n })
    rw [e1]
    simp only [dnE, hs, e, Bool.false_eq_true, if_false, Option.map_some]
end
/-- a load's word, and where it is from -/
def Good (mem : List Int) (A pre : List Ea) (a : Ea) : Prop :=
  (a.st = true → a.got = none) ∧ (a.st = false → a.dn = true → match lk none pre a.p with
    | some (n, w) => a.got = some w ∧ a.src = some n
    | none => a.got = mem[a.p.toNat]? ∧ ∀ s, a.src = some s → ∀ b ∈ A, s < b.num)
structure Iv (R : List (Bool × Int × Int)) (e : Nat) (A : List Ea) (num : Int) (got : List (Option Int)) : Prop where
  le : e + A.length ≤ R.length
  asc : Asc A
  num0 : 0 ≤ num
  nums : ∀ a ∈ A, 0 ≤ a.num ∧ a.num < num
  rows : ∀ i a, A[i]? = some a → a.spot = e + i ∧ R[a.spot]? = some (a.st, a.p, a.w)
  glen : got.length = R.length
  gots : ∀ i, i < e → got[i]? = some (dueR R i)
  vals : ∀ pre a post, A = pre ++ a :: post → Good (memAt R e) A pre a
section
variable {R : List (Bool × Int × Int)} {e : Nat} {A pre post kp : List Ea} {a : Ea} {num : Int} {got : List (Option Int)}
theorem Iv.rws (I : Iv R e A num got) : ∀ a ∈ A, R[a.spot]? = some (a.st, a.p, a.w) := fun a ha => by
  obtain ⟨i, hi⟩ := List.getElem?_of_mem ha
  exact (I.rows i a hi).2
theorem iv_first {n : Nat} (h : n = R.length) : Iv R 0 [] 0 (List.replicate n none) :=
  ⟨by simp, List.Pairwise.nil, Int.le_refl _, by simp, by simp, by simp [h], by simp, fun pre a post z => by simp at z⟩
theorem Iv.enter (I : Iv R e A num got) {st : Bool} {p w : Int} (hr : R[e + A.length]? = some (st, p, w)) : Iv R e (A ++ [⟨e + A.length, num, st, p, w, false, none, none⟩]) (num + 1) got := by
  have hlt := (List.getElem?_eq_some_iff.mp hr).1
  refine ⟨by simp; omega, ?_, by have := I.num0; omega, ?_, ?_, I.glen, I.gots, ?_⟩
  · refine List.pairwise_append.mpr ⟨I.asc, List.pairwise_singleton .., fun b hb c hc => ?_⟩
    rw [List.mem_singleton.mp hc]
    exact (I.nums b hb).2
  · intro b hb
    rcases List.mem_append.mp hb with hb | hb
    · have := I.nums b hb; omega
    · rw [List.mem_singleton.mp hb]
      have := I.num0
      simp only; omega
  · intro i b hb
    by_cases hi : i < A.length
    · rw [List.getElem?_append_left hi] at hb
      exact I.rows i b hb
    · rw [List.getElem?_append_right (by omega)] at hb
      have : i - A.length = 0 := by
        have := (List.getElem?_eq_some_iff.mp hb).1
        simp at this; omega
      rw [this] at hb
      simp at hb
      subst hb
      exact ⟨by simp only; omega, hr⟩
  · intro pre b post z
    rcases List.append_eq_append_iff.mp z with ⟨q, h1, h2⟩ | ⟨q, h1, h2⟩
    · cases q with
      | nil =>
        simp at h2
        rw [← h2.1]
        exact ⟨fun _ => rfl, fun _ z => by simp at z⟩
      | cons c q => simp at h2
    · cases q with
      | nil =>
        simp at h2
        rw [h2.1]
        exact ⟨fun _ => rfl, fun _ z => by simp at z⟩
      | cons c q =>
        simp at h2
        obtain ⟨rfl, _⟩ := h2
        obtain ⟨g1, g2⟩ := I.vals pre b q h1
        refine ⟨g1, fun s d => ?_⟩
        have g2 := g2 s d
        have hb : b ∈ A := by rw [h1]; simp
        split at g2 <;> rename_i eq
        · exact g2
        · refine ⟨g2.1, fun s hs c hc => ?_⟩
          rcases List.mem_append.mp hc with hc | hc
          · exact g2.2 s hs c hc
          · rw [List.mem_singleton.mp hc]
            have := g2.2 s hs b hb
            have := I.nums b hb
            simp only; omega
theorem Iv.leave (I : Iv R e (a :: post) num got) (hR : RowsOk R) (hd : a.dn = true) :
    memAt R (e + 1) = (if a.st = true then (memAt R e).set a.p.toNat a.w else memAt R e) ∧ Iv R (e + 1) post num (got.set e a.got) := by
  obtain ⟨sp, hr⟩ := I.rows 0 a rfl
  rw [Nat.add_zero] at sp
  rw [sp] at hr
  have hp := hR.p _ (List.mem_of_getElem? hr)
  have hlt := (List.getElem?_eq_some_iff.mp hr).1
  have em : memAt R (e + 1) = (if a.st = true then (memAt R e).set a.p.toNat a.w else memAt R e) := by
    rw [memAt, hr]
    cases h : a.st <;> simp
  have asc := Asc.split (pre := []) I.asc
  obtain ⟨ga1, ga2⟩ := I.vals [] a post rfl
  refine ⟨em, by have := I.le; simp at this; omega, asc.2.2.2, I.num0, fun b hb => I.nums b (List.mem_cons_of_mem _ hb), fun i b hb => ?_, by rw [List.length_set]; exact I.glen, fun i hi => ?_, ?_⟩
  · have := I.rows (i + 1) b hb
    exact ⟨by omega, this.2⟩
  · by_cases h : i = e
    · subst h
      rw [List.getElem?_set_self (by rw [I.glen]; exact hlt)]
      congr 1
      unfold dueR
      rw [hr]
      cases hs : a.st with
      | true => exact ga1 hs
      | false =>
        have g2 := ga2 hs hd
        simp only [lk, List.foldl_nil] at g2
        exact g2.1
    · rw [List.getElem?_set_ne (by omega)]
      exact I.gots i (by omega)
  · intro pre b post2 z
    obtain ⟨g1, g2⟩ := I.vals (a :: pre) b post2 (by rw [z]; rfl)
    refine ⟨g1, fun s d => ?_⟩
    have g2 := g2 s d
    have hb : b ∈ post := by rw [z]; simp
    have hbp : 0 ≤ b.p := (hR.p _ (List.mem_of_getElem? (I.rws b (List.mem_cons_of_mem _ hb)))).1
    have hbp3 : b.p < 3 := (hR.p _ (List.mem_of_getElem? (I.rws b (List.mem_cons_of_mem _ hb)))).2
    have ec : lk none (a :: pre) b.p = (lk none pre b.p).or (if a.st = true ∧ a.dn = true ∧ a.p = b.p then some (a.num, a.w) else none) := by
      show lk (if _ then _ else _) pre b.p = _
      rw [lk_or]
    rw [ec] at g2
    cases eq : lk none pre b.p with
    | some zz =>
      rw [eq] at g2
      exact g2
    | none =>
      rw [eq, Option.none_or] at g2
      by_cases q : a.st = true ∧ a.dn = true ∧ a.p = b.p
      · rw [if_pos q] at g2
        obtain ⟨g3, g4⟩ := g2
        rw [em, if_pos q.1]
        refine ⟨?_, fun s hs c hc => ?_⟩
        · rw [q.2.2, List.getElem?_set_self (by rw [memAt_len]; omega)]
          exact g3
        · rw [g4] at hs
          rw [← Option.some.inj hs]
          exact asc.2.1 c hc
      · rw [if_neg q] at g2
        obtain ⟨g3, g4⟩ := g2
        refine ⟨?_, fun s hs c hc => g4 s hs c (List.mem_cons_of_mem _ hc)⟩
        rw [g3, em]
        by_cases hs : a.st = true
        · rw [if_pos hs, List.getElem?_set_ne]
          have hpa : 0 ≤ a.p := hp.1
          intro w
          exact q ⟨hs, hd, by omega⟩
        · rw [if_neg hs]
theorem lk_mid {b : Ea} {l l' : List Ea} {p : Int} : lk none (l ++ b :: l') p = (lk none l' p).or ((if b.st = true ∧ b.dn = true ∧ b.p = p then some (b.num, b.w) else none).or (lk none l p)) := by
  rw [lk_app]
  show lk (if _ then _ else _) l' p = _
  rw [lk_or]
  by_cases q : b.st = true ∧ b.dn = true ∧ b.p = p
  · rw [if_pos q, if_pos q]; simp
  · rw [if_neg q, if_neg q]; simp
theorem dnE_same : (dnE pre mem a).spot = a.spot ∧ (dnE pre mem a).num = a.num ∧ (dnE pre mem a).st = a.st ∧ (dnE pre mem a).p = a.p ∧ (dnE pre mem a).w = a.w ∧ (dnE pre mem a).dn = true := by
  unfold dnE; split <;> simp
theorem Iv.done {rest : List Ea} (I : Iv R e (pre ++ a :: (kp ++ rest)) num got) (hd : a.dn = false) (hk : a.st = true → ∀ b ∈ kp, bad a.p a.num b = false) :
    Iv R e (pre ++ dnE pre (memAt R e) a :: kp) num got := by
  obtain ⟨s1, s2, s3, s4, s5, s6⟩ := dnE_same (pre := pre) (mem := memAt R e) (a := a)
  have sub : ∀ c ∈ pre ++ dnE pre (memAt R e) a :: kp, ∃ c' ∈ pre ++ a :: (kp ++ rest), c'.num = c.num := fun c hc => by
    rcases List.mem_append.mp hc with hc | hc
    · exact ⟨c, by simp [hc], rfl⟩
    · rcases List.mem_cons.mp hc with rfl | hc
      · exact ⟨a, by simp, s2.symm⟩
      · exact ⟨c, by simp [hc], rfl⟩
  obtain ⟨h1, h2, _, _⟩ := I.asc.split
  refine ⟨by have := I.le; simp at this ⊢; omega, ?_, I.num0, ?_, ?_, I.glen, I.gots, ?_⟩
  · have h := I.asc
    unfold Asc at h ⊢
    rw [← List.pairwise_map (f := fun x : Ea => x.num) (R := (· < ·))] at h ⊢
    refine h.sublist ?_
    simp [s2]
  · intro c hc
    obtain ⟨c', h1, h2⟩ := sub c hc
    rw [← h2]
    exact I.nums c' h1
  · intro i c hc
    by_cases hi : i < pre.length
    · rw [List.getElem?_append_left hi] at hc
      exact I.rows i c (by rw [List.getElem?_append_left hi]; exact hc)
    · rw [List.getElem?_append_right (by omega)] at hc
      cases hj : i - pre.length with
      | zero =>
        rw [hj] at hc
        simp at hc
        subst hc
        have := I.rows i a (by rw [List.getElem?_append_right (by omega), hj]; rfl)
        rw [s1, s3, s4, s5]
        exact this
      | succ j =>
        rw [hj] at hc
        simp at hc
        refine I.rows i c ?_
        rw [List.getElem?_append_right (by omega), hj, List.getElem?_cons_succ, List.getElem?_append_left (List.getElem?_eq_some_iff.mp hc).1]
        exact hc
  · intro p2 b q2 z
    have up : ∀ {l : List Ea}, Good (memAt R e) (pre ++ a :: (kp ++ rest)) l b → Good (memAt R e) (pre ++ dnE pre (memAt R e) a :: kp) l b := fun {l} ⟨g1, g2⟩ => by
      refine ⟨g1, fun s d => ?_⟩
      have g2 := g2 s d
      split at g2 <;> rename_i eq
      · exact g2
      · exact ⟨g2.1, fun s hs c hc => by
          obtain ⟨c', h1, h2⟩ := sub c hc
          rw [← h2]
          exact g2.2 s hs c' h1⟩
    have here : b = dnE pre (memAt R e) a → p2 = pre → Good (memAt R e) (pre ++ dnE pre (memAt R e) a :: kp) p2 b := by
      rintro rfl rfl
      unfold dnE
      by_cases hs : a.st = true
      · rw [if_pos hs]
        exact ⟨fun _ => rfl, fun s => by simp [hs] at s⟩
      · rw [if_neg hs]
        refine ⟨fun s => absurd s hs, fun _ _ => ?_⟩
        simp only
        cases eq : lk none p2 a.p with
        | none => exact ⟨rfl, fun s hs => by simp at hs⟩
        | some zz => exact ⟨rfl, rfl⟩
    have later : ∀ q, p2 = pre ++ dnE pre (memAt R e) a :: q → kp = q ++ b :: q2 → Good (memAt R e) (pre ++ dnE pre (memAt R e) a :: kp) p2 b := by
      intro q e1 e2
      have old := I.vals (pre ++ a :: q) b (q2 ++ rest) (by rw [e2]; simp)
      have hb : b ∈ kp := by rw [e2]; simp
      refine up ⟨old.1, fun s d => ?_⟩
      have g2 := old.2 s d
      rw [lk_mid, if_neg (by simp [hd]), Option.none_or] at g2
      rw [e1, lk_mid, s2, s3, s4, s5, s6]
      by_cases qq : a.st = true ∧ a.p = b.p
      · rw [if_pos ⟨qq.1, rfl, qq.2⟩]
        have hbad := hk qq.1 b hb
        have : ∃ ss, b.src = some ss ∧ ¬ ss < a.num := by
          cases es : b.src with
          | none => simp [bad, s, d, qq.2, es] at hbad
          | some ss => exact ⟨ss, rfl, fun hlt => by simp [bad, s, d, qq.2, es, hlt] at hbad⟩
        obtain ⟨ss, es, hss⟩ := this
        cases eq : lk none q b.p with
        | some zz => rw [eq] at g2; exact g2
        | none =>
          rw [eq, Option.none_or] at g2
          cases eq2 : lk none pre b.p with
          | none =>
            rw [eq2] at g2
            exact absurd (g2.2 ss es a (by simp)) hss
          | some zz =>
            obtain ⟨n, w⟩ := zz
            rw [eq2] at g2
            obtain ⟨c, hc, _, _, _, hcn, _⟩ := lk_mem eq2
            have := g2.2
            rw [es] at this
            have := Option.some.inj this
            have := h1 c hc
            omega
      · rw [if_neg (fun z => qq ⟨z.1, z.2.2⟩), Option.none_or]
        exact g2
    rcases List.append_eq_append_iff.mp z with ⟨q, e1, e2⟩ | ⟨q, e1, e2⟩
    · cases q with
      | nil =>
        simp at e2
        exact here e2.1.symm (by simpa using e1)
      | cons c q =>
        simp at e2
        exact later q (by rw [e1, e2.1]) e2.2
    · cases q with
      | nil =>
        simp at e2
        exact here e2.1 (by simpa using e1.symm)
      | cons c q =>
        simp at e2
        obtain ⟨rfl, e3⟩ := e2
        exact up (I.vals p2 b (q ++ a :: (kp ++ rest)) (by rw [e1]; simp))
end
theorem jn_of {M : Type} {k : M → Prop} {f : (M → Prop) → Prop} (P : M → Prop) (h1 : ∀ x, P x → k x) (h2 : ∀ jp : M → Prop, (∀ x, P x → jp x) → f jp) : jn k f := h2 k h1
def wait (A : List Ea) : List Int := (enI (A.map fl)).filterMap fun x => if x.2.2.2.1 = true then none else some x.1
theorem wait_mem {A : List Ea} {y : Int} (h : y ∈ wait A) : ∃ pre a post, A = pre ++ a :: post ∧ y = (pre.length : Int) ∧ a.dn = false := by
  obtain ⟨x, hx, e⟩ := List.mem_filterMap.mp h
  obtain ⟨i, hi⟩ := List.getElem?_of_mem hx
  obtain ⟨h1, h2⟩ := enI_of hi
  rw [List.getElem?_map] at h2
  obtain ⟨a, ha, e2⟩ := Option.map_eq_some_iff.mp h2
  obtain ⟨hl, e3⟩ := List.getElem?_eq_some_iff.mp ha
  rw [← e2] at e
  by_cases hd : a.dn = true
  · simp [fl, hd] at e
  · rw [if_neg (by simpa [fl] using hd)] at e
    refine ⟨A.take i, a, A.drop (i + 1), ?_, ?_, by simpa using hd⟩
    · rw [← e3, ← List.drop_eq_getElem_cons hl, List.take_append_drop]
    · rw [← Option.some.inj e, h1, List.length_take, Nat.min_eq_left (by omega)]
theorem wait_first {a : Ea} {post : List Ea} (h : a.dn = false) : ∃ ys, wait (a :: post) = 0 :: ys := by
  refine ⟨(enF 1 (post.map fl)).filterMap fun x => if x.2.2.2.1 = true then none else some x.1, ?_⟩
  show List.filterMap _ (((0 : Int), fl a) :: enF 1 (post.map fl)) = _
  rw [List.filterMap_cons_some (b := 0) (by simp [fl, h])]
def pen : List Ea → Nat
  | [] => 0
  | a :: _ => if a.dn = true then 2 else 1
def rk (n e : Nat) (A : List Ea) : Nat := 3 * (n - e) - pen A
def Rk (n e : Nat) (A : List Ea) (t : Nat) : Prop := 100 ≤ t → rk n e A + t ≤ 127 ∨ rk n e A = 0
theorem pen_le {A : List Ea} : pen A ≤ 2 := by
  cases A with
  | nil => simp [pen]
  | cons a A => simp only [pen]; split <;> omega
theorem Rk.next {n e e' t : Nat} {A A' : List Ea} (hn : n ≤ 9) (h : Rk n e A t) (h2 : 100 ≤ t → rk n e' A' + 1 ≤ rk n e A ∨ rk n e' A' = 0) : Rk n e' A' (t + 1) := by
  intro ht
  by_cases q : 100 ≤ t
  · rcases h q with h | h <;> rcases h2 q with h2 | h2 <;> omega
  · have : rk n e' A' ≤ 27 := by unfold rk; omega
    omega
section
variable {lr sr : Int} {R : List (Bool × Int × Int)} {e : Nat} {A pre post : List Ea} {a c : Ea} {num : Int} {got : List (Option Int)}
theorem find_eq (h : Asc (pre ++ c :: post)) {kk : List Int → Prop} : lcL ((pre ++ c :: post).map fl) [] (fun x39 nx40 => if some x39.2.1 = some c.num then nx40 (some x39.1) else nx40 none) kk = kk [(c.spot : Int)] := by
  obtain ⟨h1, h2, _, _⟩ := h.split
  rw [lcL_if (fun x : Int × Int × Bool × Option Int => some x.2.1 = some c.num) (fun x => x.1), List.nil_append, List.map_append, List.map_cons, List.filter_append]
  rw [List.filter_eq_nil_iff.mpr fun x hx => by obtain ⟨b, hb, rfl⟩ := List.mem_map.mp hx; have := h1 b hb; simp [fl]; omega]
  rw [List.filter_cons_of_pos (by simp [fl]), List.filter_eq_nil_iff.mpr fun x hx => by obtain ⟨b, hb, rfl⟩ := List.mem_map.mp hx; have := h2 b hb; simp [fl]; omega]
  rfl
theorem keep_eq (h : Asc (pre ++ c :: post)) {kk : List (Int × Int × Bool × Option Int) → Prop} : lcL ((pre ++ c :: post).map fl) [] (fun x45 nx46 => obg (some c.num) fun w48 => if x45.2.1 < w48 then nx46 (some x45) else nx46 none) kk = kk (pre.map fl) := by
  obtain ⟨h1, h2, _, _⟩ := h.split
  simp only [obg_some]
  rw [lcL_filter (fun x : Int × Int × Bool × Option Int => x.2.1 < c.num), List.nil_append, List.map_append, List.map_cons, List.filter_append]
  rw [List.filter_eq_self.mpr fun x hx => by obtain ⟨b, hb, rfl⟩ := List.mem_map.mp hx; exact decide_eq_true (h1 b hb)]
  rw [List.filter_cons_of_neg (by simp [fl]), List.filter_eq_nil_iff.mpr fun x hx z => by obtain ⟨b, hb, rfl⟩ := List.mem_map.mp hx; have z := of_decide_eq_true z; have := h2 b hb; simp only [fl] at z; omega]
  simp
theorem done_any (I : Iv R e (pre ++ a :: post) num got) (hR : RowsOk R) (hd : a.dn = false) {k : Option Int × QueuesS × List (Int × Int × Bool × Option Int) → Prop} :
    m__law_done (Qu lr sr (pre ++ a :: post)) (memAt R e) R ((pre ++ a :: post).map fl) (pre.length : Int) k = k (earlyE post a, Qu lr sr (pre ++ dnE pre (memAt R e) a :: post), (pre ++ dnE pre (memAt R e) a :: post).map fl) := by
  have hl : (pre ++ a :: post).length ≤ 50000 := by have := I.le; have := hR.hi; omega
  by_cases hs : a.st = true
  · rw [done_store I.asc hl (I.nums a (by simp)).1 I.rws hR hs hd]
    simp only [earlyE, dnE, if_pos hs]
  · rw [done_load I.asc hl (fun c hc => (I.nums c hc).1) I.rws hR (by simpa using hs) hd (memAt_len e)]
    simp only [earlyE, if_neg hs]
def St (R : List (Bool × Int × Int)) (lr sr : Int) (e : Nat) (A : List Ea) (num : Int) (got : List (Option Int)) : QueuesS × List Int × List (Int × Int × Bool × Option Int) × Int × Int × List (Option Int) :=
  (Qu lr sr A, memAt R e, A.map fl, ((e + A.length : Nat) : Int), num, got)
def Jv (R : List (Bool × Int × Int)) (lr sr : Int) (t : Nat) (m : QueuesS × List Int × List (Int × Int × Bool × Option Int) × Int × Int × List (Option Int)) : Prop :=
  ∃ e A num got, Iv R e A num got ∧ m = St R lr sr e A num got ∧ Rk R.length e A t
end
theorem law_ok (ns : List Int) (hl : ns.length ≤ 63) : m_law ns (fun b => b = true) := by
  unfold m_law m__law_right
  refine rows_ok fun R hR => plain_ok hR ?_
  have hlo := hR.lo
  have hhi := hR.hi
  refine drw_ok (by omega) fun d3 d30 d31 => drw_ok (by omega) fun d4 d40 d41 => ?_
  unfold m_Queues___init__
  refine ⟨by omega, by omega, ⟨by omega, by omega, by simp⟩, by omega, ?_⟩
  generalize h5 : (1 : Int) + d3 = lr
  generalize h6 : (1 : Int) + d4 = sr
  refine forL_inv (Jv R lr sr) ⟨0, [], 0, _, iv_first rfl, ?_, fun h => by omega⟩ ?_ ?_
  · simp only [St]
    congr 1
    congr 1
    congr 1
    congr 1
    congr 1
    simp [List.flatten_replicate_singleton]
  · rintro t x m nx ex ⟨e, A, num, got, I, rfl, hrk⟩ q
    have hle := I.le
    have ht := (List.getElem?_eq_some_iff.mp ex).1
    rw [rgI_len] at ht
    rw [rgI_get ht] at ex
    obtain rfl : (t : Int) = x := by have := Option.some.inj ex; omega
    have go : ∀ e' A' num' got', Iv R e' A' num' got' → (100 ≤ t → rk R.length e' A' + 1 ≤ rk R.length e A ∨ rk R.length e' A' = 0) → nx (St R lr sr e' A' num' got') := fun e' A' num' got' I' h => q _ ⟨e', A', num', got', I', rfl, hrk.next hhi h⟩
    unfold St
    dsimp only
    rw [grd_true (by rw [List.length_map]; omega)]
    rw [lcL_map (fun x11 : Int × Int × Int × Bool × Option Int => if x11.2.2.2.1 = true then none else some x11.1) (fun x _ nx => by by_cases q : x.2.2.2.1 = true <;> simp [q]), List.nil_append]
    rw [show List.filterMap (fun x11 : Int × Int × Int × Bool × Option Int => if x11.2.2.2.1 = true then none else some x11.1) (enI (A.map fl)) = wait A from rfl]
    refine jn_of (fun r : Int => 100 ≤ t → r = 3) (fun r14 h14 => ?_) (fun jp hjp => ?_)
    rotate_left
    · by_cases h : (t : Int) < 100
      · rw [if_pos h]
        exact drw_ok (by omega) fun d _ _ => hjp d fun _ => by omega
      · rw [if_neg h]
        exact hjp 3 fun _ => rfl
    refine jn_of (fun r : Bool => (r = true → ∃ st p w, R[e + A.length]? = some (st, p, w) ∧ (st = true → ((svs A).length : Int) < sr) ∧ (st = false → ((lds A).length : Int) < lr)) ∧ (r = false → A = [] → e = R.length)) (fun r16 h16 => ?_) (fun jp hjp => ?_)
    rotate_left
    · by_cases h : ((e + A.length : Nat) : Int) < (R.length : Int)
      · rw [if_pos h]
        obtain ⟨⟨st, p, w⟩, hr⟩ : ∃ r, R[e + A.length]? = some r := ⟨_, List.getElem?_eq_getElem (by omega)⟩
        refine jn_of (fun r : Bool => r = (if st = true then decide (((svs A).length : Int) < sr) else decide (((lds A).length : Int) < lr))) (fun r hr2 => hjp r ⟨fun z => ⟨st, p, w, hr, fun s => ?_, fun s => ?_⟩, fun z hA => ?_⟩) (fun jp2 h2 => ?_)
        · rw [hr2, if_pos s] at z; exact of_decide_eq_true z
        · rw [hr2, if_neg (by simp [s])] at z; exact of_decide_eq_true z
        · rw [hr2, hA] at z
          split at z <;> (have := of_decide_eq_false z; simp [svs, lds] at this; omega)
        · rw [atI_of (v := (st, p, w)) (by omega) (show R[((e + A.length : Nat) : Int).toNat]? = _ by rw [Int.toNat_natCast]; exact hr), obx_some]
          dsimp only
          cases st with
          | true => rw [if_pos rfl]; exact h2 _ rfl
          | false => rw [if_neg (by simp)]; exact h2 _ rfl
      · rw [if_neg h]
        exact hjp false ⟨fun z => by simp at z, fun _ hA => by rw [hA] at h; simp at h; omega⟩
    have hnil : (A.map fl = []) = (A = []) := by simp
    refine jn_of (fun c : Bool => (c = true → r16 = true) ∧ (100 ≤ t → (c = true → A = []) ∧ (c = false → r16 = true → A ≠ []))) (fun c18 h18 => ?_) (fun jp hjp => ?_)
    rotate_left
    · have eqn : (eqb (A.map fl) [] = true) = (A = []) := by simp
      by_cases hr : r16 = true
      · rw [if_pos hr]
        by_cases h : r14 < 2
        · rw [if_pos h]
          exact hjp true ⟨fun _ => hr, fun z => by have := h14 z; omega⟩
        · rw [if_neg h]
          refine hjp _ ⟨fun _ => hr, fun _ => ⟨fun z => by rwa [eqn] at z, fun z _ hA => ?_⟩⟩
          rw [hA] at z; simp at z
      · rw [if_neg hr]
        exact hjp false ⟨fun z => by simp at z, fun _ => ⟨fun z => by simp at z, fun _ z => absurd z hr⟩⟩
    by_cases hc : c18 = true
    · rw [if_pos hc]
      obtain ⟨st, p, w, hr, hst, hld⟩ := h16.1 (h18.1 hc)
      have hlt := (List.getElem?_eq_some_iff.mp hr).1
      refine jn_of (fun m => m = Qu lr sr (A ++ [⟨e + A.length, num, st, p, w, false, none, none⟩])) (fun m hm => ?_) (fun jp hjp => ?_)
      · subst hm
        rw [grd_true (by rw [List.length_map]; omega)]
        have := go e (A ++ [⟨e + A.length, num, st, p, w, false, none, none⟩]) (num + 1) got (I.enter hr) (fun h100 => by
          have hA := (h18.2 h100).1 hc
          subst hA
          simp at hlt
          left
          simp [rk, pen]; omega)
        unfold St at this
        rw [show ((e + (A ++ [(⟨e + A.length, num, st, p, w, false, none, none⟩ : Ea)]).length : Nat) : Int) = ((e + A.length : Nat) : Int) + 1 by simp; omega, List.map_append] at this
        exact this
      · rw [atI_of (v := (st, p, w)) (by omega) (show R[((e + A.length : Nat) : Int).toNat]? = _ by rw [Int.toNat_natCast]; exact hr), obx_some]
        have hlen : A.length ≤ 50000 := by omega
        have nw : ∀ k : Unit → Prop, m_Queues_want_new (Qu lr sr A) num k = k () := fun k => new_eq I.asc hlen (fun a ha => (I.nums a ha).2) I.num0
        dsimp only
        have l1 := lds_len (A := A)
        have l2 := svs_len (A := A)
        cases st with
        | true =>
          rw [if_pos rfl]
          unfold m_Queues_store_entered
          rw [nw]
          unfold m_Queues_can_store
          show ite (decide (((svs A).length : Int) < sr) = true) _ _
          rw [if_pos (decide_eq_true (hst rfl))]
          refine ⟨show (svs A).length + 1 ≤ 100000 by omega, hjp _ ?_⟩
          show QueuesS.mk lr sr (lds A) (svs A ++ _) = QueuesS.mk _ _ _ _
          rw [lds_app, svs_app, lds_cons, svs_cons]
          simp [lds, svs, svr]
        | false =>
          rw [if_neg (by simp)]
          unfold m_Queues_load_entered
          rw [nw]
          unfold m_Queues_can_load
          show ite (decide (((lds A).length : Int) < lr) = true) _ _
          rw [if_pos (decide_eq_true (hld rfl))]
          refine ⟨show (lds A).length + 1 ≤ 100000 by omega, hjp _ ?_⟩
          show QueuesS.mk lr sr (lds A ++ _) (svs A) = QueuesS.mk _ _ _ _
          rw [lds_app, svs_app, lds_cons, svs_cons]
          simp [lds, svs, ldr]
    rw [if_neg hc]
    refine jn_of (fun c : Bool => (c = true → ∃ a post, A = a :: post ∧ a.dn = true) ∧ (100 ≤ t → c = false → ∀ a post, A = a :: post → a.dn = false)) (fun c25 h25 => ?_) (fun jp hjp => ?_)
    rotate_left
    · cases A with
      | nil => exact hjp false ⟨fun z => by simp at z, fun _ _ a post z => by simp at z⟩
      | cons a post =>
        rw [if_neg (by simp), List.map_cons, atI_0, obx_some]
        by_cases hd : a.dn = true
        · rw [if_pos (show (fl a).2.2.1 = true from hd)]
          by_cases h3 : r14 = 3
          · rw [if_pos h3]
            exact hjp true ⟨fun _ => ⟨a, post, rfl, hd⟩, fun _ z => by simp at z⟩
          · rw [if_neg h3]
            exact hjp _ ⟨fun _ => ⟨a, post, rfl, hd⟩, fun h100 => absurd (h14 h100) h3⟩
        · rw [if_neg (show ¬ (fl a).2.2.1 = true from hd)]
          exact hjp false ⟨fun z => by simp at z, fun _ _ a' post' z => by simp at z; rw [← z.1]; simpa using hd⟩
    by_cases hc2 : c25 = true
    · rw [if_pos hc2]
      obtain ⟨a, post, rfl, hd⟩ := h25.1 hc2
      obtain ⟨em, I2⟩ := I.leave hR hd
      obtain ⟨sp, hr⟩ := I.rows 0 a rfl
      rw [Nat.add_zero] at sp
      have hp := hR.p _ (List.mem_of_getElem? hr)
      have hlt := (List.getElem?_eq_some_iff.mp hr).1
      rw [List.map_cons, atI_0, obx_some]
      have ra : atI R (fl a).1 = some (a.st, a.p, a.w) := atI_of (show 0 ≤ (a.spot : Int) by omega) (by simpa [fl] using hr)
      refine jn_of (fun m => m = memAt R (e + 1)) (fun m hm => ?_) (fun jp hjp => ?_)
      · subst hm
        rw [ixN_of (show 0 ≤ (fl a).1 from Int.natCast_nonneg _) (show (a.spot : Int) < got.length by rw [I.glen]; omega), obx_some]
        show m_Queues_leave (Qu lr sr (a :: post)) a.num _
        rw [leave_eq I.asc (by omega) (I.nums a (by simp)).1, cutA_t1]
        have := go (e + 1) post num _ I2 (fun h100 => by left; simp at hle; simp only [rk, pen, if_pos hd]; omega)
        unfold St at this
        rw [show ((e + 1 + post.length : Nat) : Int) = ((e + (a :: post).length : Nat) : Int) by simp; omega] at this
        rw [show (fl a).1.toNat = e from sp]
        exact this
      · rw [ra, obx_some, obx_some, obx_some]
        by_cases hs : a.st = true
        · rw [if_pos hs, ixN_of hp.1 (show a.p < ((memAt R e).length : Int) by rw [memAt_len]; exact hp.2), obx_some]
          exact hjp _ (by rw [em, if_pos hs])
        · rw [if_neg hs]
          exact hjp _ (by rw [em, if_neg hs])
    rw [if_neg hc2]
    by_cases hw : wait A = []
    · rw [if_pos hw]
      refine go e A num got I fun h100 => .inr ?_
      have hf : c25 = false := by simpa using hc2
      have hA : A = [] := by
        cases A with
        | nil => rfl
        | cons a post =>
          obtain ⟨ys, hy⟩ := wait_first (a := a) (post := post) (h25.2 h100 hf a post rfl)
          rw [hw] at hy; cases hy
      have : e = R.length := by
        refine h16.2 ?_ hA
        cases hr : r16 with
        | false => rfl
        | true => exact absurd hA ((h18.2 h100).2 (by simpa using hc) hr)
      subst hA
      simp [rk, this]
    rw [if_neg hw]
    refine jn_of (fun y : Int => y ∈ wait A ∧ (100 ≤ t → ∃ a post, A = a :: post ∧ a.dn = false ∧ y = 0)) (fun y hy => ?_) (fun jp hjp => ?_)
    rotate_left
    · by_cases h : (t : Int) < 100
      · rw [if_pos h]
        have hwl : 0 < (wait A).length := List.length_pos_iff.mpr hw
        refine drw_ok (by omega) fun d _ _ => ?_
        have k0 : 0 ≤ d % ((wait A).length : Int) := Int.emod_nonneg _ (by omega)
        have k1 : d % ((wait A).length : Int) < (wait A).length := Int.emod_lt_of_pos _ (by omega)
        have k2 : (d % ((wait A).length : Int)).toNat < (wait A).length := by omega
        rw [grd_true (by omega), atI_of k0 (List.getElem?_eq_getElem k2), obx_some]
        exact hjp _ ⟨List.getElem_mem _, fun h100 => by omega⟩
      · rw [if_neg h]
        have h100 : 100 ≤ t := by omega
        have hf : c25 = false := by simpa using hc2
        cases A with
        | nil => exact absurd rfl hw
        | cons a post =>
          have hd := h25.2 h100 hf a post rfl
          obtain ⟨ys, hy⟩ := wait_first (a := a) (post := post) hd
          rw [hy, atI_0, obx_some]
          exact hjp 0 ⟨by rw [hy]; exact List.mem_cons_self, fun _ => ⟨a, post, rfl, hd, rfl⟩⟩
    obtain ⟨pre, a, post, rfl, rfl, hd⟩ := wait_mem hy.1
    have late : ∀ kp : List Ea, 100 ≤ t → rk R.length e (pre ++ dnE pre (memAt R e) a :: kp) + 1 ≤ rk R.length e (pre ++ a :: post) ∨ rk R.length e (pre ++ dnE pre (memAt R e) a :: kp) = 0 := fun kp h100 => by
      obtain ⟨a', post', e1, e2, e3⟩ := hy.2 h100
      have : pre = [] := List.length_eq_zero_iff.mp (by omega)
      subst this
      left
      simp at hle
      simp only [rk, pen, List.nil_append, if_pos dnE_same.2.2.2.2.2, hd, Bool.false_eq_true, if_false]
      omega
    rw [done_any I hR hd]
    dsimp only
    have h0a := (I.nums a (by simp)).1
    cases he : earlyE post a with
    | none =>
      rw [if_neg (by simp), if_pos (c := (none : Option Int).isNone = true) rfl]
      have hk : a.st = true → ∀ b ∈ post, bad a.p a.num b = false := fun hs b hb => by
        unfold earlyE early at he
        rw [if_pos hs] at he
        have := List.find?_eq_none.mp (Option.map_eq_none_iff.mp he) b hb
        simpa using this
      have := go e _ num got (Iv.done (kp := post) (rest := []) (by rw [List.append_nil]; exact I) hd hk) (late post)
      unfold St at this
      rw [show ((e + (pre ++ dnE pre (memAt R e) a :: post).length : Nat) : Int) = ((e + (pre ++ a :: post).length : Nat) : Int) by simp] at this
      exact this
    | some n =>
      unfold earlyE at he
      by_cases hs : a.st = true
      · rw [if_pos hs] at he
        unfold early at he
        obtain ⟨c, hc3, hcn⟩ := Option.map_eq_some_iff.mp he
        obtain ⟨_, kp, rest, hpost, hkp⟩ := List.find?_eq_some_iff_append.mp hc3
        subst hcn
        have hkb : a.st = true → ∀ b ∈ kp, bad a.p a.num b = false := fun _ b hb => by simpa using hkp b hb
        have I3 := Iv.done (kp := post) (rest := []) (pre := pre) (a := a) (by rw [List.append_nil]; exact I) hd
        have hcm : c ∈ pre ++ a :: post := by rw [hpost]; simp
        have hc0 := (I.nums c hcm).1
        have asc3 : Asc ((pre ++ dnE pre (memAt R e) a :: kp) ++ c :: rest) := by
          have h := I.asc
          rw [hpost] at h
          unfold Asc at h ⊢
          rw [← List.pairwise_map (f := fun x : Ea => x.num) (R := (· < ·))] at h ⊢
          simpa [dnE_same.2.1] using h
        have eL : pre ++ dnE pre (memAt R e) a :: post = (pre ++ dnE pre (memAt R e) a :: kp) ++ c :: rest := by rw [hpost]; simp
        have len : ((pre ++ dnE pre (memAt R e) a :: kp) ++ c :: rest).length = (pre ++ a :: post).length := by rw [hpost]; simp
        rw [eL, if_neg (by simp; omega), if_neg (by simp), grd_true (by rw [List.length_map]; omega), find_eq asc3, atI_0, obx_some, obg_some, dropped_eq asc3 (by omega) hc0, grd_true (by rw [List.length_map]; omega), keep_eq asc3]
        have := go e _ num got (Iv.done (kp := kp) (rest := c :: rest) (by rw [← hpost]; exact I) hd hkb) (late kp)
        unfold St at this
        have sp := (I.rows (pre.length + 1 + kp.length) c (by
          rw [hpost, List.getElem?_append_right (by omega), show pre.length + 1 + kp.length - pre.length = kp.length + 1 by omega, List.getElem?_cons_succ]
          simp)).1
        rw [show ((e + (pre ++ dnE pre (memAt R e) a :: kp).length : Nat) : Int) = (c.spot : Int) by rw [sp]; simp; omega] at this
        exact this
      · rw [if_neg hs] at he; cases he
  · rintro m ⟨e, A, num, got, I, rfl, hrk⟩
    rw [rgI_len] at hrk
    have h0 : rk R.length e A = 0 := by
      rcases hrk (by decide) with h | h
      · have : (160 : Int).toNat = 160 := rfl
        omega
      · exact h
    have hle := I.le
    have hA : A = [] := by
      cases A with
      | nil => rfl
      | cons a A =>
        exfalso
        have := pen_le (A := a :: A)
        simp at hle
        unfold rk at h0
        omega
    subst hA
    have he : e = R.length := by simp [rk, pen] at h0; simp at hle; omega
    subst he
    unfold St
    dsimp only
    have eg : got = (List.range R.length).map (dueR R) := by
      refine List.ext_getElem? fun i => ?_
      by_cases hi : i < R.length
      · rw [I.gots i hi]; simp [hi]
      · rw [List.getElem?_eq_none (by rw [I.glen]; omega), List.getElem?_eq_none (by simp; omega)]
    rw [if_pos eg, if_pos rfl, if_pos (c := List.map fl [] = []) rfl]
    simp

open PySem L2 Toy in
local macro_rules | `(tactic| walk_at "fr") => `(tactic| first | walk_at "fr0" | ((with_reducible refine' take_lsD ?t ?h); (case t => walk_at "fr0"); (case h => walk_at "as")) | ((with_reducible refine' take_of (Sub.f_Queues ?fs)); (case fs => walk_at "subR")))
open PySem L2 Toy in
local macro_rules | `(tactic| walk_at "fold1") => `(tactic| first | ((refine Ent.sub (M := A_Queues _ _ _ _ :: _) ?fs ?_); (case fs => (with_reducible refine' Sub.f_Queues ?fz); (case fz => walk_at "subR"))))
open PySem L2 Toy in
local macro_rules | `(tactic| walk_at "open1") => `(tactic| first | ((with_reducible refine' oF_Queues ?t (fun _ _ _ => ?_)); (case t => walk_at "fr0")) | ((with_reducible refine' oS_Queues ?t (fun _ _ _ => ?_)); (case t => walk_at "fr0")))
open PySem L2 Toy in
local macro_rules | `(tactic| walk_at "hi") => `(tactic| first | ((refine' hasI_pt ?h ?g); (case h => walk_at "fr0"); (case g => rfl)) | ((refine' hi_Queues ?h ?g); (case h => walk_at "fr0"); (case g => intros; rfl)))
open PySem L2 Toy in
local macro_rules | `(tactic| walk_at "tyx") => `(tactic| first | exact ty_I _ | exact ty_B _ | exact ty_S _ | ((refine' ty_Queues ?t (Txt.i_Queues (by assumption)) (Txt.c_Queues (by assumption))); (case t => walk_at "fr0")))
open PySem L2 Toy in
local macro_rules | `(tactic| walk_at "kit") => `(tactic| first | exact kit_ty (by decide +kernel) | exact Txt.io_Queues (by assumption))
open PySem L2 Toy in
local macro_rules | `(tactic| walk_at "ins") => `(tactic| first | fail ""  | ((refine' ins_Queues ?t); (case t => walk_at "fr0")))
open PySem L2 Toy in
local macro_rules | `(tactic| walk_at "nfst") => `(tactic| first | fail ""  | exact Txt.is_Queues (by assumption))
open PySem L2 Toy in
local macro_rules | `(tactic| walk_at "kdt") => `(tactic| first | fail "" )
def sp_Queues___init__ (K : PySem.W.Frag) (a : Ad) : Sp := fun vs H Q _ => ∃ (a_self dx_self : Addr) (loads : Int) (stores : Int) (F : List HA) (k : QueuesS → Prop), vs = [.ref a_self, .int loads, .int stores] ∧ Holds (pt a_self (.ins a.c_Queues dx_self []) :: F) H ∧ m_Queues___init__ loads stores k ∧ ∀ r, k r → Ent (A_Queues K a a_self r :: F) (Q .non)
theorem e_Queues___init__ {K : PySem.W.Frag} {a : Ad} {L R1 : List HA} {Q : VK} {E : XK} {a_self dx_self : Addr} {loads : Int} {stores : Int} {k : QueuesS → Prop} (hm : m_Queues___init__ loads stores k)  (t_self : Take (pt a_self (.ins a.c_Queues dx_self [])) L R1)  (q : ∀ r, k r → Ent (A_Queues K a a_self r :: R1) (Q .non)) : Ent L fun H => sp_Queues___init__ K a [.ref a_self, .int loads, .int stores] H Q E := fun H z => by
  have z0 : Holds (pt a_self (.ins a.c_Queues dx_self []) :: R1) H := Sub.to t_self z
  exact ⟨a_self, dx_self, loads, stores, R1, k, rfl, Sub.to (by walk_at "sub") z0, hm, q⟩
def sp_Queues_all_numbers (K : PySem.W.Frag) (a : Ad) : Sp := fun vs H Q _ => ∃ (a_self : Addr) (self : QueuesS) (F : List HA) (k : (List Int) → Prop), vs = [.ref a_self] ∧ Holds (A_Queues K a a_self self :: F) H ∧ m_Queues_all_numbers self k ∧ ∀ r, k r → ∀ p, Ent (ls (kI (K := K)) p r :: A_Queues K a a_self self :: F) (Q (.ref p))
theorem e_Queues_all_numbers {K : PySem.W.Frag} {a : Ad} {L R1 : List HA} {Q : VK} {E : XK} {a_self : Addr} {self : QueuesS} {k : (List Int) → Prop} (hm : m_Queues_all_numbers self k)  (t_self : Take (A_Queues K a a_self self) L R1)  (q : ∀ r, k r → ∀ p, Ent (ls (kI (K := K)) p r :: A_Queues K a a_self self :: R1) (Q (.ref p))) : Ent L fun H => sp_Queues_all_numbers K a [.ref a_self] H Q E := fun H z => by
  have z0 : Holds (A_Queues K a a_self self :: R1) H := Sub.to t_self z
  exact ⟨a_self, self, R1, k, rfl, Sub.to (by walk_at "sub") z0, hm, q⟩
def sp_Queues_source_of (K : PySem.W.Frag) (a : Ad) : Sp := fun vs H Q _ => ∃ (a_self : Addr) (self : QueuesS) (number : Int) (place : Int) (F : List HA) (k : ((Str) ⊕ (Str × Int × (Option Int))) → Prop), vs = [.ref a_self, .int number, .int place] ∧ Holds (A_Queues K a a_self self :: F) H ∧ m_Queues_source_of self number place k ∧ ∀ r, k r → ∀ v, Ent (vl (kU (kTup (kC1 (kSt (K := K)))) (kTup (kC (kSt (K := K)) (kC (kI (K := K)) (kC1 (kO (kI (K := K)))))))) v r :: A_Queues K a a_self self :: F) (Q v)
theorem e_Queues_source_of {K : PySem.W.Frag} {a : Ad} {L R1 : List HA} {Q : VK} {E : XK} {a_self : Addr} {self : QueuesS} {number : Int} {place : Int} {k : ((Str) ⊕ (Str × Int × (Option Int))) → Prop} (hm : m_Queues_source_of self number place k)  (t_self : Take (A_Queues K a a_self self) L R1)  (q : ∀ r, k r → ∀ v, Ent (vl (kU (kTup (kC1 (kSt (K := K)))) (kTup (kC (kSt (K := K)) (kC (kI (K := K)) (kC1 (kO (kI (K := K)))))))) v r :: A_Queues K a a_self self :: R1) (Q v)) : Ent L fun H => sp_Queues_source_of K a [.ref a_self, .int number, .int place] H Q E := fun H z => by
  have z0 : Holds (A_Queues K a a_self self :: R1) H := Sub.to t_self z
  exact ⟨a_self, self, number, place, R1, k, rfl, Sub.to (by walk_at "sub") z0, hm, q⟩
def sp_Queues_told_known (K : PySem.W.Frag) (a : Ad) : Sp := fun vs H Q _ => ∃ (a_self : Addr) (self : QueuesS) (number : Int) (place : Int) (word : Int) (F : List HA) (k : ((Option Int) × QueuesS) → Prop), vs = [.ref a_self, .int number, .int place, .int word] ∧ Holds (A_Queues K a a_self self :: F) H ∧ m_Queues_told_known self number place word k ∧ ∀ r, k r → ∀ v, Ent (vl (kO (kI (K := K))) v r.1 :: A_Queues K a a_self r.2 :: F) (Q v)
theorem e_Queues_told_known {K : PySem.W.Frag} {a : Ad} {L R1 : List HA} {Q : VK} {E : XK} {a_self : Addr} {self : QueuesS} {number : Int} {place : Int} {word : Int} {k : ((Option Int) × QueuesS) → Prop} (hm : m_Queues_told_known self number place word k)  (t_self : Take (A_Queues K a a_self self) L R1)  (q : ∀ r, k r → ∀ v, Ent (vl (kO (kI (K := K))) v r.1 :: A_Queues K a a_self r.2 :: R1) (Q v)) : Ent L fun H => sp_Queues_told_known K a [.ref a_self, .int number, .int place, .int word] H Q E := fun H z => by
  have z0 : Holds (A_Queues K a a_self self :: R1) H := Sub.to t_self z
  exact ⟨a_self, self, number, place, word, R1, k, rfl, Sub.to (by walk_at "sub") z0, hm, q⟩
def sp_Queues_note_read (K : PySem.W.Frag) (a : Ad) : Sp := fun vs H Q _ => ∃ (a_self : Addr) (self : QueuesS) (number : Int) (place : Int) (source : (Option Int)) (v_source : V) (F : List HA) (k : QueuesS → Prop), vs = [.ref a_self, .int number, .int place, v_source] ∧ Holds (A_Queues K a a_self self :: vl (kO (kI (K := K))) v_source source :: F) H ∧ m_Queues_note_read self number place source k ∧ ∀ r, k r → Ent (A_Queues K a a_self r :: F) (Q .non)
theorem e_Queues_note_read {K : PySem.W.Frag} {a : Ad} {L R1 : List HA} {Q : VK} {E : XK} {a_self : Addr} {self : QueuesS} {number : Int} {place : Int} {source : (Option Int)} {v_source : V} {k : QueuesS → Prop} (hm : m_Queues_note_read self number place source k) (h_source : Is (kO (kI (K := K))) L v_source source) (t_self : Take (A_Queues K a a_self self) L R1)  (q : ∀ r, k r → Ent (A_Queues K a a_self r :: R1) (Q .non)) : Ent L fun H => sp_Queues_note_read K a [.ref a_self, .int number, .int place, v_source] H Q E := fun H z => by
  have z0 : Holds (A_Queues K a a_self self :: R1) H := Sub.to t_self z
  have z1 := Holds.vl z0 (h_source H z)
  exact ⟨a_self, self, number, place, source, v_source, R1, k, rfl, Sub.to (by walk_at "sub") z1, hm, q⟩
def sp_Queues_drop_from (K : PySem.W.Frag) (a : Ad) : Sp := fun vs H Q _ => ∃ (a_self : Addr) (self : QueuesS) (number : Int) (F : List HA) (k : QueuesS → Prop), vs = [.ref a_self, .int number] ∧ Holds (A_Queues K a a_self self :: F) H ∧ m_Queues_drop_from self number k ∧ ∀ r, k r → Ent (A_Queues K a a_self r :: F) (Q .non)
theorem e_Queues_drop_from {K : PySem.W.Frag} {a : Ad} {L R1 : List HA} {Q : VK} {E : XK} {a_self : Addr} {self : QueuesS} {number : Int} {k : QueuesS → Prop} (hm : m_Queues_drop_from self number k)  (t_self : Take (A_Queues K a a_self self) L R1)  (q : ∀ r, k r → Ent (A_Queues K a a_self r :: R1) (Q .non)) : Ent L fun H => sp_Queues_drop_from K a [.ref a_self, .int number] H Q E := fun H z => by
  have z0 : Holds (A_Queues K a a_self self :: R1) H := Sub.to t_self z
  exact ⟨a_self, self, number, R1, k, rfl, Sub.to (by walk_at "sub") z0, hm, q⟩
def sp_Queues_leave_oldest (K : PySem.W.Frag) (a : Ad) : Sp := fun vs H Q _ => ∃ (a_self : Addr) (self : QueuesS) (number : Int) (F : List HA) (k : QueuesS → Prop), vs = [.ref a_self, .int number] ∧ Holds (A_Queues K a a_self self :: F) H ∧ m_Queues_leave_oldest self number k ∧ ∀ r, k r → Ent (A_Queues K a a_self r :: F) (Q .non)
theorem e_Queues_leave_oldest {K : PySem.W.Frag} {a : Ad} {L R1 : List HA} {Q : VK} {E : XK} {a_self : Addr} {self : QueuesS} {number : Int} {k : QueuesS → Prop} (hm : m_Queues_leave_oldest self number k)  (t_self : Take (A_Queues K a a_self self) L R1)  (q : ∀ r, k r → Ent (A_Queues K a a_self r :: R1) (Q .non)) : Ent L fun H => sp_Queues_leave_oldest K a [.ref a_self, .int number] H Q E := fun H z => by
  have z0 : Holds (A_Queues K a a_self self :: R1) H := Sub.to t_self z
  exact ⟨a_self, self, number, R1, k, rfl, Sub.to (by walk_at "sub") z0, hm, q⟩
def sp_Queues_want_new (K : PySem.W.Frag) (a : Ad) : Sp := fun vs H Q _ => ∃ (a_self : Addr) (self : QueuesS) (number : Int) (F : List HA) (k : Unit → Prop), vs = [.ref a_self, .int number] ∧ Holds (A_Queues K a a_self self :: F) H ∧ m_Queues_want_new self number k ∧ ∀ r, k r → Ent (A_Queues K a a_self self :: F) (Q .non)
theorem e_Queues_want_new {K : PySem.W.Frag} {a : Ad} {L R1 : List HA} {Q : VK} {E : XK} {a_self : Addr} {self : QueuesS} {number : Int} {k : Unit → Prop} (hm : m_Queues_want_new self number k)  (t_self : Take (A_Queues K a a_self self) L R1)  (q : ∀ r, k r → Ent (A_Queues K a a_self self :: R1) (Q .non)) : Ent L fun H => sp_Queues_want_new K a [.ref a_self, .int number] H Q E := fun H z => by
  have z0 : Holds (A_Queues K a a_self self :: R1) H := Sub.to t_self z
  exact ⟨a_self, self, number, R1, k, rfl, Sub.to (by walk_at "sub") z0, hm, q⟩
def sp_Queues_row_of (K : PySem.W.Frag) (a : Ad) : Sp := fun vs H Q _ => ∃ (a_self : Addr) (a_rows : Addr) (rows : (List (Int × (Option Int) × (Option Int)))) (number : Int) (F : List HA) (k : (Int × (Option Int) × (Option Int)) → Prop), vs = [.ref a_self, .ref a_rows, .int number] ∧ Holds (ls (kTup (kC (kI (K := K)) (kC (kO (kI (K := K))) (kC1 (kO (kI (K := K))))))) a_rows rows :: F) H ∧ m_Queues_row_of rows number k ∧ ∀ r, k r → ∀ v, Ent (vl (kTup (kC (kI (K := K)) (kC (kO (kI (K := K))) (kC1 (kO (kI (K := K))))))) v r :: ls (kTup (kC (kI (K := K)) (kC (kO (kI (K := K))) (kC1 (kO (kI (K := K))))))) a_rows rows :: F) (Q v)
theorem e_Queues_row_of {K : PySem.W.Frag} {a : Ad} {L R1 : List HA} {Q : VK} {E : XK} {a_self : Addr} {a_rows : Addr} {rows : (List (Int × (Option Int) × (Option Int)))} {number : Int} {k : (Int × (Option Int) × (Option Int)) → Prop} (hm : m_Queues_row_of rows number k)  (t_rows : Take (ls (kTup (kC (kI (K := K)) (kC (kO (kI (K := K))) (kC1 (kO (kI (K := K))))))) a_rows rows) L R1)  (q : ∀ r, k r → ∀ v, Ent (vl (kTup (kC (kI (K := K)) (kC (kO (kI (K := K))) (kC1 (kO (kI (K := K))))))) v r :: ls (kTup (kC (kI (K := K)) (kC (kO (kI (K := K))) (kC1 (kO (kI (K := K))))))) a_rows rows :: R1) (Q v)) : Ent L fun H => sp_Queues_row_of K a [.ref a_self, .ref a_rows, .int number] H Q E := fun H z => by
  have z0 : Holds (ls (kTup (kC (kI (K := K)) (kC (kO (kI (K := K))) (kC1 (kO (kI (K := K))))))) a_rows rows :: R1) H := Sub.to t_rows z
  exact ⟨a_self, a_rows, rows, number, R1, k, rfl, Sub.to (by walk_at "sub") z0, hm, q⟩
def sp_Queues_is_source (K : PySem.W.Frag) (a : Ad) : Sp := fun vs H Q _ => ∃ (a_self : Addr) (self : QueuesS) (number : Int) (place : Int) (value : (Option Int)) (v_value : V) (F : List HA) (k : Bool → Prop), vs = [.ref a_self, .int number, .int place, v_value] ∧ Holds (A_Queues K a a_self self :: vl (kO (kI (K := K))) v_value value :: F) H ∧ m_Queues_is_source self number place value k ∧ ∀ r, k r → Ent (A_Queues K a a_self self :: F) (Q (.bl r))
theorem e_Queues_is_source {K : PySem.W.Frag} {a : Ad} {L R1 : List HA} {Q : VK} {E : XK} {a_self : Addr} {self : QueuesS} {number : Int} {place : Int} {value : (Option Int)} {v_value : V} {k : Bool → Prop} (hm : m_Queues_is_source self number place value k) (h_value : Is (kO (kI (K := K))) L v_value value) (t_self : Take (A_Queues K a a_self self) L R1)  (q : ∀ r, k r → Ent (A_Queues K a a_self self :: R1) (Q (.bl r))) : Ent L fun H => sp_Queues_is_source K a [.ref a_self, .int number, .int place, v_value] H Q E := fun H z => by
  have z0 : Holds (A_Queues K a a_self self :: R1) H := Sub.to t_self z
  have z1 := Holds.vl z0 (h_value H z)
  exact ⟨a_self, self, number, place, value, v_value, R1, k, rfl, Sub.to (by walk_at "sub") z1, hm, q⟩
def sp_Queues_can_load (K : PySem.W.Frag) (a : Ad) : Sp := fun vs H Q _ => ∃ (a_self : Addr) (self : QueuesS) (F : List HA) (k : Bool → Prop), vs = [.ref a_self] ∧ Holds (A_Queues K a a_self self :: F) H ∧ m_Queues_can_load self k ∧ ∀ r, k r → Ent (A_Queues K a a_self self :: F) (Q (.bl r))
theorem e_Queues_can_load {K : PySem.W.Frag} {a : Ad} {L R1 : List HA} {Q : VK} {E : XK} {a_self : Addr} {self : QueuesS} {k : Bool → Prop} (hm : m_Queues_can_load self k)  (t_self : Take (A_Queues K a a_self self) L R1)  (q : ∀ r, k r → Ent (A_Queues K a a_self self :: R1) (Q (.bl r))) : Ent L fun H => sp_Queues_can_load K a [.ref a_self] H Q E := fun H z => by
  have z0 : Holds (A_Queues K a a_self self :: R1) H := Sub.to t_self z
  exact ⟨a_self, self, R1, k, rfl, Sub.to (by walk_at "sub") z0, hm, q⟩
def sp_Queues_can_store (K : PySem.W.Frag) (a : Ad) : Sp := fun vs H Q _ => ∃ (a_self : Addr) (self : QueuesS) (F : List HA) (k : Bool → Prop), vs = [.ref a_self] ∧ Holds (A_Queues K a a_self self :: F) H ∧ m_Queues_can_store self k ∧ ∀ r, k r → Ent (A_Queues K a a_self self :: F) (Q (.bl r))
theorem e_Queues_can_store {K : PySem.W.Frag} {a : Ad} {L R1 : List HA} {Q : VK} {E : XK} {a_self : Addr} {self : QueuesS} {k : Bool → Prop} (hm : m_Queues_can_store self k)  (t_self : Take (A_Queues K a a_self self) L R1)  (q : ∀ r, k r → Ent (A_Queues K a a_self self :: R1) (Q (.bl r))) : Ent L fun H => sp_Queues_can_store K a [.ref a_self] H Q E := fun H z => by
  have z0 : Holds (A_Queues K a a_self self :: R1) H := Sub.to t_self z
  exact ⟨a_self, self, R1, k, rfl, Sub.to (by walk_at "sub") z0, hm, q⟩
def sp_Queues_load_entered (K : PySem.W.Frag) (a : Ad) : Sp := fun vs H Q _ => ∃ (a_self : Addr) (self : QueuesS) (number : Int) (F : List HA) (k : QueuesS → Prop), vs = [.ref a_self, .int number] ∧ Holds (A_Queues K a a_self self :: F) H ∧ m_Queues_load_entered self number k ∧ ∀ r, k r → Ent (A_Queues K a a_self r :: F) (Q .non)
theorem e_Queues_load_entered {K : PySem.W.Frag} {a : Ad} {L R1 : List HA} {Q : VK} {E : XK} {a_self : Addr} {self : QueuesS} {number : Int} {k : QueuesS → Prop} (hm : m_Queues_load_entered self number k)  (t_self : Take (A_Queues K a a_self self) L R1)  (q : ∀ r, k r → Ent (A_Queues K a a_self r :: R1) (Q .non)) : Ent L fun H => sp_Queues_load_entered K a [.ref a_self, .int number] H Q E := fun H z => by
  have z0 : Holds (A_Queues K a a_self self :: R1) H := Sub.to t_self z
  exact ⟨a_self, self, number, R1, k, rfl, Sub.to (by walk_at "sub") z0, hm, q⟩
def sp_Queues_store_entered (K : PySem.W.Frag) (a : Ad) : Sp := fun vs H Q _ => ∃ (a_self : Addr) (self : QueuesS) (number : Int) (F : List HA) (k : QueuesS → Prop), vs = [.ref a_self, .int number] ∧ Holds (A_Queues K a a_self self :: F) H ∧ m_Queues_store_entered self number k ∧ ∀ r, k r → Ent (A_Queues K a a_self r :: F) (Q .non)
theorem e_Queues_store_entered {K : PySem.W.Frag} {a : Ad} {L R1 : List HA} {Q : VK} {E : XK} {a_self : Addr} {self : QueuesS} {number : Int} {k : QueuesS → Prop} (hm : m_Queues_store_entered self number k)  (t_self : Take (A_Queues K a a_self self) L R1)  (q : ∀ r, k r → Ent (A_Queues K a a_self r :: R1) (Q .non)) : Ent L fun H => sp_Queues_store_entered K a [.ref a_self, .int number] H Q E := fun H z => by
  have z0 : Holds (A_Queues K a a_self self :: R1) H := Sub.to t_self z
  exact ⟨a_self, self, number, R1, k, rfl, Sub.to (by walk_at "sub") z0, hm, q⟩
def sp_Queues_known (K : PySem.W.Frag) (a : Ad) : Sp := fun vs H Q _ => ∃ (a_self : Addr) (self : QueuesS) (number : Int) (place : Int) (word : Int) (F : List HA) (k : ((Option Int) × QueuesS) → Prop), vs = [.ref a_self, .int number, .int place, .int word] ∧ Holds (A_Queues K a a_self self :: F) H ∧ m_Queues_known self number place word k ∧ ∀ r, k r → ∀ v, Ent (vl (kO (kI (K := K))) v r.1 :: A_Queues K a a_self r.2 :: F) (Q v)
theorem e_Queues_known {K : PySem.W.Frag} {a : Ad} {L R1 : List HA} {Q : VK} {E : XK} {a_self : Addr} {self : QueuesS} {number : Int} {place : Int} {word : Int} {k : ((Option Int) × QueuesS) → Prop} (hm : m_Queues_known self number place word k)  (t_self : Take (A_Queues K a a_self self) L R1)  (q : ∀ r, k r → ∀ v, Ent (vl (kO (kI (K := K))) v r.1 :: A_Queues K a a_self r.2 :: R1) (Q v)) : Ent L fun H => sp_Queues_known K a [.ref a_self, .int number, .int place, .int word] H Q E := fun H z => by
  have z0 : Holds (A_Queues K a a_self self :: R1) H := Sub.to t_self z
  exact ⟨a_self, self, number, place, word, R1, k, rfl, Sub.to (by walk_at "sub") z0, hm, q⟩
def sp_Queues_source (K : PySem.W.Frag) (a : Ad) : Sp := fun vs H Q _ => ∃ (a_self : Addr) (self : QueuesS) (number : Int) (place : Int) (F : List HA) (k : ((Str) ⊕ (Str × Int × (Option Int))) → Prop), vs = [.ref a_self, .int number, .int place] ∧ Holds (A_Queues K a a_self self :: F) H ∧ m_Queues_source self number place k ∧ ∀ r, k r → ∀ v, Ent (vl (kU (kTup (kC1 (kSt (K := K)))) (kTup (kC (kSt (K := K)) (kC (kI (K := K)) (kC1 (kO (kI (K := K)))))))) v r :: A_Queues K a a_self self :: F) (Q v)
theorem e_Queues_source {K : PySem.W.Frag} {a : Ad} {L R1 : List HA} {Q : VK} {E : XK} {a_self : Addr} {self : QueuesS} {number : Int} {place : Int} {k : ((Str) ⊕ (Str × Int × (Option Int))) → Prop} (hm : m_Queues_source self number place k)  (t_self : Take (A_Queues K a a_self self) L R1)  (q : ∀ r, k r → ∀ v, Ent (vl (kU (kTup (kC1 (kSt (K := K)))) (kTup (kC (kSt (K := K)) (kC (kI (K := K)) (kC1 (kO (kI (K := K)))))))) v r :: A_Queues K a a_self self :: R1) (Q v)) : Ent L fun H => sp_Queues_source K a [.ref a_self, .int number, .int place] H Q E := fun H z => by
  have z0 : Holds (A_Queues K a a_self self :: R1) H := Sub.to t_self z
  exact ⟨a_self, self, number, place, R1, k, rfl, Sub.to (by walk_at "sub") z0, hm, q⟩
def sp_Queues_read (K : PySem.W.Frag) (a : Ad) : Sp := fun vs H Q _ => ∃ (a_self : Addr) (self : QueuesS) (number : Int) (place : Int) (source : (Option Int)) (v_source : V) (F : List HA) (k : QueuesS → Prop), vs = [.ref a_self, .int number, .int place, v_source] ∧ Holds (A_Queues K a a_self self :: vl (kO (kI (K := K))) v_source source :: F) H ∧ m_Queues_read self number place source k ∧ ∀ r, k r → Ent (A_Queues K a a_self r :: F) (Q .non)
theorem e_Queues_read {K : PySem.W.Frag} {a : Ad} {L R1 : List HA} {Q : VK} {E : XK} {a_self : Addr} {self : QueuesS} {number : Int} {place : Int} {source : (Option Int)} {v_source : V} {k : QueuesS → Prop} (hm : m_Queues_read self number place source k) (h_source : Is (kO (kI (K := K))) L v_source source) (t_self : Take (A_Queues K a a_self self) L R1)  (q : ∀ r, k r → Ent (A_Queues K a a_self r :: R1) (Q .non)) : Ent L fun H => sp_Queues_read K a [.ref a_self, .int number, .int place, v_source] H Q E := fun H z => by
  have z0 : Holds (A_Queues K a a_self self :: R1) H := Sub.to t_self z
  have z1 := Holds.vl z0 (h_source H z)
  exact ⟨a_self, self, number, place, source, v_source, R1, k, rfl, Sub.to (by walk_at "sub") z1, hm, q⟩
def sp_Queues_leave (K : PySem.W.Frag) (a : Ad) : Sp := fun vs H Q _ => ∃ (a_self : Addr) (self : QueuesS) (number : Int) (F : List HA) (k : QueuesS → Prop), vs = [.ref a_self, .int number] ∧ Holds (A_Queues K a a_self self :: F) H ∧ m_Queues_leave self number k ∧ ∀ r, k r → Ent (A_Queues K a a_self r :: F) (Q .non)
theorem e_Queues_leave {K : PySem.W.Frag} {a : Ad} {L R1 : List HA} {Q : VK} {E : XK} {a_self : Addr} {self : QueuesS} {number : Int} {k : QueuesS → Prop} (hm : m_Queues_leave self number k)  (t_self : Take (A_Queues K a a_self self) L R1)  (q : ∀ r, k r → Ent (A_Queues K a a_self r :: R1) (Q .non)) : Ent L fun H => sp_Queues_leave K a [.ref a_self, .int number] H Q E := fun H z => by
  have z0 : Holds (A_Queues K a a_self self :: R1) H := Sub.to t_self z
  exact ⟨a_self, self, number, R1, k, rfl, Sub.to (by walk_at "sub") z0, hm, q⟩
def sp_Queues_dropped (K : PySem.W.Frag) (a : Ad) : Sp := fun vs H Q _ => ∃ (a_self : Addr) (self : QueuesS) (number : Int) (F : List HA) (k : QueuesS → Prop), vs = [.ref a_self, .int number] ∧ Holds (A_Queues K a a_self self :: F) H ∧ m_Queues_dropped self number k ∧ ∀ r, k r → Ent (A_Queues K a a_self r :: F) (Q .non)
theorem e_Queues_dropped {K : PySem.W.Frag} {a : Ad} {L R1 : List HA} {Q : VK} {E : XK} {a_self : Addr} {self : QueuesS} {number : Int} {k : QueuesS → Prop} (hm : m_Queues_dropped self number k)  (t_self : Take (A_Queues K a a_self self) L R1)  (q : ∀ r, k r → Ent (A_Queues K a a_self r :: R1) (Q .non)) : Ent L fun H => sp_Queues_dropped K a [.ref a_self, .int number] H Q E := fun H z => by
  have z0 : Holds (A_Queues K a a_self self :: R1) H := Sub.to t_self z
  exact ⟨a_self, self, number, R1, k, rfl, Sub.to (by walk_at "sub") z0, hm, q⟩
def sp_Queues_loads (K : PySem.W.Frag) (a : Ad) : Sp := fun vs H Q _ => ∃ (a_self : Addr) (self : QueuesS) (F : List HA) (k : (List (Int × (Option Int) × (Option Int))) → Prop), vs = [.ref a_self] ∧ Holds (A_Queues K a a_self self :: F) H ∧ m_Queues_loads self k ∧ ∀ r, k r → ∀ p, Ent (ls (kTup (kC (kI (K := K)) (kC (kO (kI (K := K))) (kC1 (kO (kI (K := K))))))) p r :: A_Queues K a a_self self :: F) (Q (.ref p))
theorem e_Queues_loads {K : PySem.W.Frag} {a : Ad} {L R1 : List HA} {Q : VK} {E : XK} {a_self : Addr} {self : QueuesS} {k : (List (Int × (Option Int) × (Option Int))) → Prop} (hm : m_Queues_loads self k)  (t_self : Take (A_Queues K a a_self self) L R1)  (q : ∀ r, k r → ∀ p, Ent (ls (kTup (kC (kI (K := K)) (kC (kO (kI (K := K))) (kC1 (kO (kI (K := K))))))) p r :: A_Queues K a a_self self :: R1) (Q (.ref p))) : Ent L fun H => sp_Queues_loads K a [.ref a_self] H Q E := fun H z => by
  have z0 : Holds (A_Queues K a a_self self :: R1) H := Sub.to t_self z
  exact ⟨a_self, self, R1, k, rfl, Sub.to (by walk_at "sub") z0, hm, q⟩
def sp_Queues_stores (K : PySem.W.Frag) (a : Ad) : Sp := fun vs H Q _ => ∃ (a_self : Addr) (self : QueuesS) (F : List HA) (k : (List (Int × (Option Int) × (Option Int))) → Prop), vs = [.ref a_self] ∧ Holds (A_Queues K a a_self self :: F) H ∧ m_Queues_stores self k ∧ ∀ r, k r → ∀ p, Ent (ls (kTup (kC (kI (K := K)) (kC (kO (kI (K := K))) (kC1 (kO (kI (K := K))))))) p r :: A_Queues K a a_self self :: F) (Q (.ref p))
theorem e_Queues_stores {K : PySem.W.Frag} {a : Ad} {L R1 : List HA} {Q : VK} {E : XK} {a_self : Addr} {self : QueuesS} {k : (List (Int × (Option Int) × (Option Int))) → Prop} (hm : m_Queues_stores self k)  (t_self : Take (A_Queues K a a_self self) L R1)  (q : ∀ r, k r → ∀ p, Ent (ls (kTup (kC (kI (K := K)) (kC (kO (kI (K := K))) (kC1 (kO (kI (K := K))))))) p r :: A_Queues K a a_self self :: R1) (Q (.ref p))) : Ent L fun H => sp_Queues_stores K a [.ref a_self] H Q E := fun H z => by
  have z0 : Holds (A_Queues K a a_self self :: R1) H := Sub.to t_self z
  exact ⟨a_self, self, R1, k, rfl, Sub.to (by walk_at "sub") z0, hm, q⟩
def sp__law_rows (K : PySem.W.Frag) (a : Ad) : Sp := fun vs H Q _ => ∃ (a_pot_here : Addr) (F : List HA) (k : (List (Bool × Int × Int)) → Prop), vs = [.ref a_pot_here] ∧ Holds (PotA a_pot_here :: F) H ∧ m__law_rows  k ∧ ∀ r, k r → ∀ p, Ent (ls (kTup (kC (kB (K := K)) (kC (kI (K := K)) (kC1 (kI (K := K)))))) p r :: PotA a_pot_here :: F) (Q (.ref p))
theorem e__law_rows {K : PySem.W.Frag} {a : Ad} {L R1 : List HA} {Q : VK} {E : XK} {a_pot_here : Addr} {k : (List (Bool × Int × Int)) → Prop} (hm : m__law_rows  k)  (t_pot_here : Take (PotA a_pot_here) L R1)  (q : ∀ r, k r → ∀ p, Ent (ls (kTup (kC (kB (K := K)) (kC (kI (K := K)) (kC1 (kI (K := K)))))) p r :: PotA a_pot_here :: R1) (Q (.ref p))) : Ent L fun H => sp__law_rows K a [.ref a_pot_here] H Q E := fun H z => by
  have z0 : Holds (PotA a_pot_here :: R1) H := Sub.to t_pot_here z
  exact ⟨a_pot_here, R1, k, rfl, Sub.to (by walk_at "sub") z0, hm, q⟩
def sp__law_plain (K : PySem.W.Frag) (a : Ad) : Sp := fun vs H Q _ => ∃ (a_rows_here : Addr) (rows_here : (List (Bool × Int × Int))) (F : List HA) (k : ((List (Option Int)) × (List Int)) → Prop), vs = [.ref a_rows_here] ∧ Holds (ls (kTup (kC (kB (K := K)) (kC (kI (K := K)) (kC1 (kI (K := K)))))) a_rows_here rows_here :: F) H ∧ m__law_plain rows_here k ∧ ∀ r, k r → ∀ (p : Addr) (p0 : Addr) (p1 : Addr), Ent (tu p [.ref p0, .ref p1] :: ls (kO (kI (K := K))) p0 r.1 :: ls (kI (K := K)) p1 r.2 :: ls (kTup (kC (kB (K := K)) (kC (kI (K := K)) (kC1 (kI (K := K)))))) a_rows_here rows_here :: F) (Q (.ref p))
theorem e__law_plain {K : PySem.W.Frag} {a : Ad} {L R1 : List HA} {Q : VK} {E : XK} {a_rows_here : Addr} {rows_here : (List (Bool × Int × Int))} {k : ((List (Option Int)) × (List Int)) → Prop} (hm : m__law_plain rows_here k)  (t_rows_here : Take (ls (kTup (kC (kB (K := K)) (kC (kI (K := K)) (kC1 (kI (K := K)))))) a_rows_here rows_here) L R1)  (q : ∀ r, k r → ∀ (p : Addr) (p0 : Addr) (p1 : Addr), Ent (tu p [.ref p0, .ref p1] :: ls (kO (kI (K := K))) p0 r.1 :: ls (kI (K := K)) p1 r.2 :: ls (kTup (kC (kB (K := K)) (kC (kI (K := K)) (kC1 (kI (K := K)))))) a_rows_here rows_here :: R1) (Q (.ref p))) : Ent L fun H => sp__law_plain K a [.ref a_rows_here] H Q E := fun H z => by
  have z0 : Holds (ls (kTup (kC (kB (K := K)) (kC (kI (K := K)) (kC1 (kI (K := K)))))) a_rows_here rows_here :: R1) H := Sub.to t_rows_here z
  exact ⟨a_rows_here, rows_here, R1, k, rfl, Sub.to (by walk_at "sub") z0, hm, q⟩
def sp__law_read_from (K : PySem.W.Frag) (a : Ad) : Sp := fun vs H Q _ => ∃ (a_queues : Addr) (queues : QueuesS) (number : Int) (F : List HA) (k : (Option Int) → Prop), vs = [.ref a_queues, .int number] ∧ Holds (A_Queues K a a_queues queues :: F) H ∧ m__law_read_from queues number k ∧ ∀ r, k r → ∀ v, Ent (vl (kO (kI (K := K))) v r :: A_Queues K a a_queues queues :: F) (Q v)
theorem e__law_read_from {K : PySem.W.Frag} {a : Ad} {L R1 : List HA} {Q : VK} {E : XK} {a_queues : Addr} {queues : QueuesS} {number : Int} {k : (Option Int) → Prop} (hm : m__law_read_from queues number k)  (t_queues : Take (A_Queues K a a_queues queues) L R1)  (q : ∀ r, k r → ∀ v, Ent (vl (kO (kI (K := K))) v r :: A_Queues K a a_queues queues :: R1) (Q v)) : Ent L fun H => sp__law_read_from K a [.ref a_queues, .int number] H Q E := fun H z => by
  have z0 : Holds (A_Queues K a a_queues queues :: R1) H := Sub.to t_queues z
  exact ⟨a_queues, queues, number, R1, k, rfl, Sub.to (by walk_at "sub") z0, hm, q⟩
def sp__law_done (K : PySem.W.Frag) (a : Ad) : Sp := fun vs H Q _ => ∃ (a_queues : Addr) (queues : QueuesS) (a_memory : Addr) (memory : (List Int)) (a_rows_here : Addr) (rows_here : (List (Bool × Int × Int))) (a_flight : Addr) (flight : (List (Int × Int × Bool × (Option Int)))) (at_ : Int) (F : List HA) (k : ((Option Int) × QueuesS × (List (Int × Int × Bool × (Option Int)))) → Prop), vs = [.ref a_queues, .ref a_memory, .ref a_rows_here, .ref a_flight, .int at_] ∧ Holds (A_Queues K a a_queues queues :: ls (kI (K := K)) a_memory memory :: ls (kTup (kC (kB (K := K)) (kC (kI (K := K)) (kC1 (kI (K := K)))))) a_rows_here rows_here :: ls (kTup (kC (kI (K := K)) (kC (kI (K := K)) (kC (kB (K := K)) (kC1 (kO (kI (K := K)))))))) a_flight flight :: F) H ∧ m__law_done queues memory rows_here flight at_ k ∧ ∀ r, k r → ∀ v, Ent (vl (kO (kI (K := K))) v r.1 :: A_Queues K a a_queues r.2.1 :: ls (kI (K := K)) a_memory memory :: ls (kTup (kC (kB (K := K)) (kC (kI (K := K)) (kC1 (kI (K := K)))))) a_rows_here rows_here :: ls (kTup (kC (kI (K := K)) (kC (kI (K := K)) (kC (kB (K := K)) (kC1 (kO (kI (K := K)))))))) a_flight r.2.2 :: F) (Q v)
theorem e__law_done {K : PySem.W.Frag} {a : Ad} {L R1 R2 R3 R4 : List HA} {Q : VK} {E : XK} {a_queues : Addr} {queues : QueuesS} {a_memory : Addr} {memory : (List Int)} {a_rows_here : Addr} {rows_here : (List (Bool × Int × Int))} {a_flight : Addr} {flight : (List (Int × Int × Bool × (Option Int)))} {at_ : Int} {k : ((Option Int) × QueuesS × (List (Int × Int × Bool × (Option Int)))) → Prop} (hm : m__law_done queues memory rows_here flight at_ k)  (t_queues : Take (A_Queues K a a_queues queues) L R1) (t_memory : Take (ls (kI (K := K)) a_memory memory) R1 R2) (t_rows_here : Take (ls (kTup (kC (kB (K := K)) (kC (kI (K := K)) (kC1 (kI (K := K)))))) a_rows_here rows_here) R2 R3) (t_flight : Take (ls (kTup (kC (kI (K := K)) (kC (kI (K := K)) (kC (kB (K := K)) (kC1 (kO (kI (K := K)))))))) a_flight flight) R3 R4)  (q : ∀ r, k r → ∀ v, Ent (vl (kO (kI (K := K))) v r.1 :: A_Queues K a a_queues r.2.1 :: ls (kI (K := K)) a_memory memory :: ls (kTup (kC (kB (K := K)) (kC (kI (K := K)) (kC1 (kI (K := K)))))) a_rows_here rows_here :: ls (kTup (kC (kI (K := K)) (kC (kI (K := K)) (kC (kB (K := K)) (kC1 (kO (kI (K := K)))))))) a_flight r.2.2 :: R4) (Q v)) : Ent L fun H => sp__law_done K a [.ref a_queues, .ref a_memory, .ref a_rows_here, .ref a_flight, .int at_] H Q E := fun H z => by
  have z0 : Holds (A_Queues K a a_queues queues :: ls (kI (K := K)) a_memory memory :: ls (kTup (kC (kB (K := K)) (kC (kI (K := K)) (kC1 (kI (K := K)))))) a_rows_here rows_here :: ls (kTup (kC (kI (K := K)) (kC (kI (K := K)) (kC (kB (K := K)) (kC1 (kO (kI (K := K)))))))) a_flight flight :: R4) H := Sub.to (Sub.take t_queues (Sub.take t_memory (Sub.take t_rows_here t_flight))) z
  exact ⟨a_queues, queues, a_memory, memory, a_rows_here, rows_here, a_flight, flight, at_, R4, k, rfl, Sub.to (by walk_at "sub") z0, hm, q⟩
def sp__law_right (K : PySem.W.Frag) (a : Ad) : Sp := fun vs H Q _ => ∃ (a_pot_here : Addr) (F : List HA) (k : Bool → Prop), vs = [.ref a_pot_here] ∧ Holds (PotA a_pot_here :: F) H ∧ m__law_right  k ∧ ∀ r, k r → Ent (PotA a_pot_here :: F) (Q (.bl r))
theorem e__law_right {K : PySem.W.Frag} {a : Ad} {L R1 : List HA} {Q : VK} {E : XK} {a_pot_here : Addr} {k : Bool → Prop} (hm : m__law_right  k)  (t_pot_here : Take (PotA a_pot_here) L R1)  (q : ∀ r, k r → Ent (PotA a_pot_here :: R1) (Q (.bl r))) : Ent L fun H => sp__law_right K a [.ref a_pot_here] H Q E := fun H z => by
  have z0 : Holds (PotA a_pot_here :: R1) H := Sub.to t_pot_here z
  exact ⟨a_pot_here, R1, k, rfl, Sub.to (by walk_at "sub") z0, hm, q⟩
open PySem L2 Toy in
local macro_rules | `(tactic| walk_at "lc") => `(tactic| first | ((with_reducible refine' c_lcLs (kI (K := $(Lean.mkIdent `K))) $(Lean.mkIdent `hm) ?t (fun x nxt $(Lean.mkIdent `hm) => ?step) (fun ys $(Lean.mkIdent `hm) D => ?_)); (case t => walk_at "fr"); (case step => intro v D ys r s $(Lean.mkIdent `q1) $(Lean.mkIdent `q2); revert v; walk_at "nv"; repeat (walk_at "go"))) | ((with_reducible refine' c_lcEn (kI (K := $(Lean.mkIdent `K))) $(Lean.mkIdent `hm) ?t (fun x nxt $(Lean.mkIdent `hm) => ?step) (fun ys $(Lean.mkIdent `hm) D => ?_)); (case t => walk_at "fr"); (case step => intro T v D ys r s $(Lean.mkIdent `q1) $(Lean.mkIdent `q2); refine Ent.swp ?_; revert v; walk_at "nv"; repeat (walk_at "go"))) | ((with_reducible refine' c_lcLs (kTup (kC (kI (K := $(Lean.mkIdent `K))) (kC (kI (K := $(Lean.mkIdent `K))) (kC (kB (K := $(Lean.mkIdent `K))) (kC1 (kO (kI (K := $(Lean.mkIdent `K))))))))) $(Lean.mkIdent `hm) ?t (fun x nxt $(Lean.mkIdent `hm) => ?step) (fun ys $(Lean.mkIdent `hm) D => ?_)); (case t => walk_at "fr"); (case step => intro v D ys r s $(Lean.mkIdent `q1) $(Lean.mkIdent `q2); revert v; walk_at "nv"; repeat (walk_at "go"))) | ((with_reducible refine' c_lcEn (kTup (kC (kI (K := $(Lean.mkIdent `K))) (kC (kI (K := $(Lean.mkIdent `K))) (kC (kB (K := $(Lean.mkIdent `K))) (kC1 (kO (kI (K := $(Lean.mkIdent `K))))))))) $(Lean.mkIdent `hm) ?t (fun x nxt $(Lean.mkIdent `hm) => ?step) (fun ys $(Lean.mkIdent `hm) D => ?_)); (case t => walk_at "fr"); (case step => intro T v D ys r s $(Lean.mkIdent `q1) $(Lean.mkIdent `q2); refine Ent.swp ?_; revert v; walk_at "nv"; repeat (walk_at "go"))) | ((with_reducible refine' c_lcLs (kTup (kC (kI (K := $(Lean.mkIdent `K))) (kC (kO (kI (K := $(Lean.mkIdent `K)))) (kC1 (kO (kI (K := $(Lean.mkIdent `K)))))))) $(Lean.mkIdent `hm) ?t (fun x nxt $(Lean.mkIdent `hm) => ?step) (fun ys $(Lean.mkIdent `hm) D => ?_)); (case t => walk_at "fr"); (case step => intro v D ys r s $(Lean.mkIdent `q1) $(Lean.mkIdent `q2); revert v; walk_at "nv"; repeat (walk_at "go"))) | ((with_reducible refine' c_lcEn (kTup (kC (kI (K := $(Lean.mkIdent `K))) (kC (kO (kI (K := $(Lean.mkIdent `K)))) (kC1 (kO (kI (K := $(Lean.mkIdent `K)))))))) $(Lean.mkIdent `hm) ?t (fun x nxt $(Lean.mkIdent `hm) => ?step) (fun ys $(Lean.mkIdent `hm) D => ?_)); (case t => walk_at "fr"); (case step => intro T v D ys r s $(Lean.mkIdent `q1) $(Lean.mkIdent `q2); refine Ent.swp ?_; revert v; walk_at "nv"; repeat (walk_at "go"))))
open PySem L2 Toy in
local macro_rules | `(tactic| walk_at "cE") => `(tactic| first | ((with_reducible refine' c_cutE (kB (K := $(Lean.mkIdent `K))) $(Lean.mkIdent `hm) (fun jp $(Lean.mkIdent `hm) => ?q) (fun x $(Lean.mkIdent `hm) => ?_)); (case q => repeat (walk_at "go")); walk_at "nv") | ((with_reducible refine' c_cutE (kI (K := $(Lean.mkIdent `K))) $(Lean.mkIdent `hm) (fun jp $(Lean.mkIdent `hm) => ?q) (fun x $(Lean.mkIdent `hm) => ?_)); (case q => repeat (walk_at "go")); walk_at "nv") | ((with_reducible refine' c_cutE (kO (kI (K := $(Lean.mkIdent `K)))) $(Lean.mkIdent `hm) (fun jp $(Lean.mkIdent `hm) => ?q) (fun x $(Lean.mkIdent `hm) => ?_)); (case q => repeat (walk_at "go")); walk_at "nv"))
open PySem L2 Toy in
local macro_rules | `(tactic| walk_at "rpr") => `(tactic| first | fail)
open PySem L2 Toy in
local macro_rules | `(tactic| walk_at "frz") => `(tactic| first | fail)
open PySem L2 Toy in
local macro_rules | `(tactic| walk_at "lcS") => `(tactic| first | ((with_reducible refine' c_lcSq (kI (K := $(Lean.mkIdent `K))) $(Lean.mkIdent `hm) ?t (fun x nxt $(Lean.mkIdent `hm) => ?step) (fun ys $(Lean.mkIdent `hm) D => ?_)); (case t => walk_at "sq2"); (case step => intro v D ys r s $(Lean.mkIdent `q1) $(Lean.mkIdent `q2); revert v; walk_at "nv"; repeat (walk_at "go"))) | ((with_reducible refine' c_lcSq (kTup (kC (kI (K := $(Lean.mkIdent `K))) (kC (kI (K := $(Lean.mkIdent `K))) (kC (kB (K := $(Lean.mkIdent `K))) (kC1 (kO (kI (K := $(Lean.mkIdent `K))))))))) $(Lean.mkIdent `hm) ?t (fun x nxt $(Lean.mkIdent `hm) => ?step) (fun ys $(Lean.mkIdent `hm) D => ?_)); (case t => walk_at "sq2"); (case step => intro v D ys r s $(Lean.mkIdent `q1) $(Lean.mkIdent `q2); revert v; walk_at "nv"; repeat (walk_at "go"))) | ((with_reducible refine' c_lcSq (kTup (kC (kI (K := $(Lean.mkIdent `K))) (kC (kO (kI (K := $(Lean.mkIdent `K)))) (kC1 (kO (kI (K := $(Lean.mkIdent `K)))))))) $(Lean.mkIdent `hm) ?t (fun x nxt $(Lean.mkIdent `hm) => ?step) (fun ys $(Lean.mkIdent `hm) D => ?_)); (case t => walk_at "sq2"); (case step => intro v D ys r s $(Lean.mkIdent `q1) $(Lean.mkIdent `q2); revert v; walk_at "nv"; repeat (walk_at "go"))))
open PySem L2 Toy in
local macro_rules | `(tactic| walk_at "rep") => `(tactic| first | ((with_reducible refine' c_rep (E := (kO (kI (K := $(Lean.mkIdent `K))))) $(Lean.mkIdent `hm) ?t (fun $(Lean.mkIdent `hm) _ => ?_)); (case t => walk_at "fr")))
open PySem L2 Toy in
local macro_rules | `(tactic| walk_at "cat") => `(tactic| first | ((with_reducible refine' c_cat (E := (kI (K := $(Lean.mkIdent `K)))) $(Lean.mkIdent `hm) ?t ?g (fun $(Lean.mkIdent `hm) _ => ?_)); (case t => walk_at "fr"); (case g => walk_at "fr")) | ((with_reducible refine' c_cat (E := (kTup (kC (kI (K := $(Lean.mkIdent `K))) (kC (kO (kI (K := $(Lean.mkIdent `K)))) (kC1 (kO (kI (K := $(Lean.mkIdent `K))))))))) $(Lean.mkIdent `hm) ?t ?g (fun $(Lean.mkIdent `hm) _ => ?_)); (case t => walk_at "fr"); (case g => walk_at "fr")))
open PySem L2 Toy in
local macro_rules | `(tactic| walk_at "sF") => `(tactic| first
  | ((with_reducible refine' e_Queues___init__ $(Lean.mkIdent `hm)  ?t_self  (fun _ $(Lean.mkIdent `hm) => ?_)); (case t_self => walk_at "fr"))
  | ((with_reducible refine' e_Queues_all_numbers $(Lean.mkIdent `hm)  ?t_self  (fun _ $(Lean.mkIdent `hm) => ?_)); (case t_self => walk_at "fr"); walk_at "nv")
  | ((with_reducible refine' e_Queues_source_of $(Lean.mkIdent `hm)  ?t_self  (fun _ $(Lean.mkIdent `hm) => ?_)); (case t_self => walk_at "fr"); walk_at "nv")
  | ((with_reducible refine' e_Queues_told_known $(Lean.mkIdent `hm)  ?t_self  (fun _ $(Lean.mkIdent `hm) => ?_)); (case t_self => walk_at "fr"); walk_at "nv")
  | ((with_reducible refine' e_Queues_note_read $(Lean.mkIdent `hm) ?h_source ?t_self  (fun _ $(Lean.mkIdent `hm) => ?_)); (case h_source => walk_at "el"); (case t_self => walk_at "fr"))
  | ((with_reducible refine' e_Queues_drop_from $(Lean.mkIdent `hm)  ?t_self  (fun _ $(Lean.mkIdent `hm) => ?_)); (case t_self => walk_at "fr"))
  | ((with_reducible refine' e_Queues_leave_oldest $(Lean.mkIdent `hm)  ?t_self  (fun _ $(Lean.mkIdent `hm) => ?_)); (case t_self => walk_at "fr"))
  | ((with_reducible refine' e_Queues_want_new $(Lean.mkIdent `hm)  ?t_self  (fun _ $(Lean.mkIdent `hm) => ?_)); (case t_self => walk_at "fr"))
  | ((with_reducible refine' e_Queues_row_of $(Lean.mkIdent `hm)  ?t_rows  (fun _ $(Lean.mkIdent `hm) => ?_)); (case t_rows => walk_at "fr"); walk_at "nv")
  | ((with_reducible refine' e_Queues_is_source $(Lean.mkIdent `hm) ?h_value ?t_self  (fun _ $(Lean.mkIdent `hm) => ?_)); (case h_value => walk_at "el"); (case t_self => walk_at "fr"))
  | ((with_reducible refine' e_Queues_can_load $(Lean.mkIdent `hm)  ?t_self  (fun _ $(Lean.mkIdent `hm) => ?_)); (case t_self => walk_at "fr"))
  | ((with_reducible refine' e_Queues_can_store $(Lean.mkIdent `hm)  ?t_self  (fun _ $(Lean.mkIdent `hm) => ?_)); (case t_self => walk_at "fr"))
  | ((with_reducible refine' e_Queues_load_entered $(Lean.mkIdent `hm)  ?t_self  (fun _ $(Lean.mkIdent `hm) => ?_)); (case t_self => walk_at "fr"))
  | ((with_reducible refine' e_Queues_store_entered $(Lean.mkIdent `hm)  ?t_self  (fun _ $(Lean.mkIdent `hm) => ?_)); (case t_self => walk_at "fr"))
  | ((with_reducible refine' e_Queues_known $(Lean.mkIdent `hm)  ?t_self  (fun _ $(Lean.mkIdent `hm) => ?_)); (case t_self => walk_at "fr"); walk_at "nv")
  | ((with_reducible refine' e_Queues_source $(Lean.mkIdent `hm)  ?t_self  (fun _ $(Lean.mkIdent `hm) => ?_)); (case t_self => walk_at "fr"); walk_at "nv")
  | ((with_reducible refine' e_Queues_read $(Lean.mkIdent `hm) ?h_source ?t_self  (fun _ $(Lean.mkIdent `hm) => ?_)); (case h_source => walk_at "el"); (case t_self => walk_at "fr"))
  | ((with_reducible refine' e_Queues_leave $(Lean.mkIdent `hm)  ?t_self  (fun _ $(Lean.mkIdent `hm) => ?_)); (case t_self => walk_at "fr"))
  | ((with_reducible refine' e_Queues_dropped $(Lean.mkIdent `hm)  ?t_self  (fun _ $(Lean.mkIdent `hm) => ?_)); (case t_self => walk_at "fr"))
  | ((with_reducible refine' e_Queues_loads $(Lean.mkIdent `hm)  ?t_self  (fun _ $(Lean.mkIdent `hm) => ?_)); (case t_self => walk_at "fr"); walk_at "nv")
  | ((with_reducible refine' e_Queues_stores $(Lean.mkIdent `hm)  ?t_self  (fun _ $(Lean.mkIdent `hm) => ?_)); (case t_self => walk_at "fr"); walk_at "nv")
  | ((with_reducible refine' e__law_rows $(Lean.mkIdent `hm)  ?t_pot_here  (fun _ $(Lean.mkIdent `hm) => ?_)); (case t_pot_here => walk_at "fr"); walk_at "nv")
  | ((with_reducible refine' e__law_plain $(Lean.mkIdent `hm)  ?t_rows_here  (fun _ $(Lean.mkIdent `hm) => ?_)); (case t_rows_here => walk_at "fr"); intro _ _ _)
  | ((with_reducible refine' e__law_read_from $(Lean.mkIdent `hm)  ?t_queues  (fun _ $(Lean.mkIdent `hm) => ?_)); (case t_queues => walk_at "fr"); walk_at "nv")
  | ((with_reducible refine' e__law_done $(Lean.mkIdent `hm)  ?t_queues ?t_memory ?t_rows_here ?t_flight  (fun _ $(Lean.mkIdent `hm) => ?_)); (case t_queues => walk_at "fr"); (case t_memory => walk_at "fr"); (case t_rows_here => walk_at "fr"); (case t_flight => walk_at "fr"); walk_at "nv")
  | ((with_reducible refine' e__law_right $(Lean.mkIdent `hm)  ?t_pot_here  (fun _ $(Lean.mkIdent `hm) => ?_)); (case t_pot_here => walk_at "fr")))

section
variable {P : Program} {w : World} {K : PySem.W.Frag} {mg : Str → Option Value} {base : Heap} {a : Ad}
theorem ok_CoreError___init__ (T : Txt K mg a) : FnOk P w K mg base (L2.CX P w) 1 a.f_CoreError___init__ a.d_CoreError___init__ ["self", "value"] (spCore K) := by
  refine T.F_CoreError___init__.okX sc_CoreError___init__ (fun vs H Q E h => ?_) (fun cdv A outer s H vs Q E hr h => ?_)
  · obtain ⟨_, _, _, rfl, _⟩ := h
    rfl
  · obtain ⟨x, C, v, rfl, hC, hn, hx, k⟩ := h
    refine ⟨_, (pss_one (ps_ost (pv 0) (pv 1))), ?_⟩
    exact ⟨_, rfl, _, rfl, x, C, rfl, hC, hn, .inl ⟨hx, fun dx n ne => k dx n ne⟩⟩
theorem ok_is_integer (T : Txt K mg a) : FnOk P w K mg base (L2.CX P w) 1 a.f_is_integer a.d_is_integer ["value"] (spInt K) := by
  refine T.F_is_integer.okX sc_is_integer (fun vs H Q E h => ?_) (fun cdv A outer s H vs Q E hr h => ?_)
  · obtain ⟨_, _, rfl, _⟩ := h
    rfl
  · obtain ⟨v, b, rfl, ⟨t, b1, b2, ty, e1, e2, rfl⟩, k⟩ := h
    refine ⟨_, (pss_one (ps_ret (pe_and (pe_callB call_isi (by rfl) T.z_isinstance (by decide +kernel) (pa_cons (pv 0) (pa_cons (pe_bltn (v := .ty "int") (u := .type "int") (by rfl) T.z_int (by decide +kernel) rfl) pa_nil))) (pe_one (pe_not (pe_callB call_isi (by rfl) T.z_isinstance (by decide +kernel) (pa_cons (pv 0) (pa_cons (pe_bltn (v := .ty "bool") (u := .type "bool") (by rfl) T.z_bool (by decide +kernel) rfl) pa_nil)))))))), ?_⟩
    refine ⟨_, rfl, v, _, t, _, b1, rfl, .ty "int", ty, e1, b1, rfl, ?_⟩
    cases b1 with
    | false => exact k
    | true => exact ⟨_, rfl, v, _, t, _, b2, rfl, .ty "bool", ty, e2 rfl, b2, rfl, k⟩
theorem ok_is_count (T : Txt K mg a) : FnOk P w K mg base (L2.CX P w) 2 a.f_is_count a.d_is_count ["value"] (spCount K) := by
  refine T.F_is_count.okX sc_is_count (fun vs H Q E h => ?_) (fun cdv A outer s H vs Q E hr h => ?_)
  · obtain ⟨_, rfl, _⟩ := h
    rfl
  · obtain ⟨v, rfl, hk, k⟩ := h
    refine ⟨_, (pss_one (ps_ret (pe_and (pe_call (ok_is_integer (K := K) T) (hr.mono (by decide)) (by rfl) T.m_is_integer T.F_is_integer.kp T.b_is_integer .nil passL (pa_cons (pv 0) pa_nil)) (pe_one (pe_cmpR op_ge (pv 0) pe_int (nomark _)))))), ?_⟩
    refine ⟨_, rfl, v, _, rfl, hk, _, rfl, ?_⟩
    cases v with
    | int n => exact ⟨_, rfl, _, _, rfl, rfl, k⟩
    | _ => exact k
theorem ok_want_many (T : Txt K mg a) : FnOk P w K mg base (L2.CX P w) 3 a.f_want_many a.d_want_many ["value", "least", "most"] (spWantMany K a.c_InvalidMany) := by
  refine T.F_want_many.okX sc_want_many (fun vs H Q E h => ?_) (fun cdv A outer s H vs Q E hr h => ?_)
  · obtain ⟨_, _, _, rfl, _⟩ := h
    rfl
  · obtain ⟨v, lo, hi, rfl, hk, k1, k2⟩ := h
    refine ⟨_, (pss_one (ps_if (PW.pt (pw_or (pt_not (pt_val (pe_call (ok_is_count (K := K) T) (hr.mono (by decide)) (by rfl) T.m_is_count T.F_is_count.kp T.b_is_count .nil passL (pa_cons (pv 0) pa_nil)))) (pw_or1 (pt_not (pt_chain op_le op_le (pv 1) (pv 0) (pv 2)))))) (pss_one (ps_raise rfl (takes_of rfl rfl rfl rfl) (pmk_oex T.x_InvalidMany T.xi_InvalidMany T.xt_CoreError___init__ (ok_CoreError___init__ (K := K) T) (hr.mono (by decide)) T.b_CoreError___init__ .nil passL (by rfl) T.g_InvalidMany (pa_cons (pv 0) pa_nil)))) pss_nil)), ?_⟩
    refine w_in (σ := [some _, some _, some _]) rfl ?_
    repeat (walk_at "wst")
    refine w_or ?_
    repeat (walk_at "wst")
    refine ⟨v, rfl, hk, ?_⟩
    have bad : isMany lo hi v = false → _ := fun e => w_core T.x_InvalidMany T.xn_InvalidMany_value (k2 e)
    cases v with
    | int n =>
      show ∃ c, V.bl (decide (0 ≤ n)) = .bl c ∧ _
      repeat (walk_at "wst")
      refine ifS' (fun h0 => ?_) (fun h0 => ?_)
      · repeat (walk_at "wst")
        refine ifS (fun h1 => ?_) (fun h1 => ?_)
        · repeat (walk_at "wst")
          refine ifS' (fun h2 => ?_) (fun h2 => ?_)
          · repeat (walk_at "wst")
            exact k1 (isMany_of h0 h1 h2)
          · repeat (walk_at "wst")
            exact bad (by simp [isMany, h2])
        · repeat (walk_at "wst")
          exact bad (by simp [isMany, h1])
      · repeat (walk_at "wst")
        exact bad (by simp [isMany, h0])
    | _ =>
      refine ⟨_, rfl, ?_⟩
      show if (!false) = true then _ else _
      repeat (walk_at "wst")
      exact bad rfl
theorem ok_is_word (T : Txt K mg a) : FnOk P w K mg base (L2.CX P w) 3 a.f_is_word a.d_is_word ["value"] (spIsWord K) := by
  refine T.F_is_word.okX sc_is_word (fun vs H Q E h => ?_) (fun cdv A outer s H vs Q E hr h => ?_)
  · obtain ⟨_, rfl, _⟩ := h
    rfl
  · obtain ⟨v, rfl, hk, k⟩ := h
    refine ⟨_, (pss_one (ps_ret (pe_and (pe_call (ok_is_count (K := K) T) (hr.mono (by decide)) (by rfl) T.m_is_count T.F_is_count.kp T.b_is_count .nil passL (pa_cons (pv 0) pa_nil)) (pe_one (pe_cmpR op_lt (pv 0) (pe_glob (v := .int 65536) (by rfl) T.v_MOST_WORD ⟨_, rfl⟩) (nomark _)))))), ?_⟩
    refine w_in (σ := [some _]) rfl ?_
    repeat (walk_at "wst")
    refine ⟨v, rfl, hk, ?_⟩
    cases v with
    | int n =>
      show ∃ c, V.bl (decide (0 ≤ n)) = .bl c ∧ _
      refine ⟨_, rfl, ifS (fun h => ?_) (fun h => ?_)⟩
      · repeat (walk_at "wst")
        have e : isWord (.int n) = decide (n < 65536) := by simp [isWord, h]
        rw [← e]
        exact k
      · have e : isWord (.int n) = false := by simp [isWord, h]
        rw [e] at k
        exact k
    | _ => exact ⟨_, rfl, iteF k⟩
theorem ok_is_place (T : Txt K mg a) : FnOk P w K mg base (L2.CX P w) 3 a.f_is_place a.d_is_place ["value"] (aB1 fun n => decide (0 ≤ n) && decide (n < 1024)) := by
  refine T.F_is_place.okX sc_is_place (fun vs H Q E h => ?_) (fun cdv A outer s H vs Q E hr h => ?_)
  · obtain ⟨_, rfl, _⟩ := h
    rfl
  · obtain ⟨n, rfl, q⟩ := h
    refine ⟨_, (pss_one (ps_ret (pe_and (pe_call (ok_is_count (K := K) T) (hr.mono (by decide)) (by rfl) T.m_is_count T.F_is_count.kp T.b_is_count .nil passL (pa_cons (pv 0) pa_nil)) (pe_one (pe_cmpR op_lt (pv 0) (pe_glob (v := .int 1024) (by rfl) T.v_MOST_PLACE ⟨_, rfl⟩) (nomark _)))))), ?_⟩
    refine w_in (σ := [some _]) rfl ?_
    repeat (walk_at "wst")
    refine ⟨_, rfl, kint_int n, ?_⟩
    show ∃ c, V.bl (decide (0 ≤ n)) = .bl c ∧ _
    repeat (walk_at "wst")
    refine ifS (fun h => ?_) fun h => ?_
    · repeat (walk_at "wst")
      simpa [h] using q
    · repeat (walk_at "wst")
      simpa [h] using q
theorem ok_want_word (T : Txt K mg a) : FnOk P w K mg base (L2.CX P w) 4 a.f_want_word a.d_want_word ["value"] (spWantWord K a.c_InvalidWord) := by
  refine T.F_want_word.okX sc_want_word (fun vs H Q E h => ?_) (fun cdv A outer s H vs Q E hr h => ?_)
  · obtain ⟨_, rfl, _⟩ := h
    rfl
  · obtain ⟨v, rfl, hk, k1, k2⟩ := h
    refine ⟨_, (pss_one (ps_if (pt_not (pt_val (pe_call (ok_is_word (K := K) T) (hr.mono (by decide)) (by rfl) T.m_is_word T.F_is_word.kp T.b_is_word .nil passL (pa_cons (pv 0) pa_nil)))) (pss_one (ps_raise rfl (takes_of rfl rfl rfl rfl) (pmk_oex T.x_InvalidWord T.xi_InvalidWord T.xt_CoreError___init__ (ok_CoreError___init__ (K := K) T) (hr.mono (by decide)) T.b_CoreError___init__ .nil passL (by rfl) T.g_InvalidWord (pa_cons (pv 0) pa_nil)))) pss_nil)), ?_⟩
    refine w_in (σ := [some _]) rfl ?_
    repeat (walk_at "wst")
    refine ⟨v, rfl, hk, ?_⟩
    repeat (walk_at "wst")
    cases e : isWord v with
    | true =>
      repeat (walk_at "wst")
      exact k1 e
    | false =>
      repeat (walk_at "wst")
      exact w_core T.x_InvalidWord T.xn_InvalidWord_value (k2 e)
theorem ok_want_place (T : Txt K mg a) : FnOk P w K mg base (L2.CX P w) 4 a.f_want_place a.d_want_place ["value"] (aW1 fun n => 0 ≤ n ∧ n < 1024) := by
  refine T.F_want_place.okX sc_want_place (fun vs H Q E h => ?_) (fun cdv A outer s H vs Q E hr h => ?_)
  · obtain ⟨_, rfl, _⟩ := h
    rfl
  · obtain ⟨n, rfl, ⟨h0, h1⟩, q⟩ := h
    refine ⟨_, (pss_one (ps_if (pt_not (pt_val (pe_call (ok_is_place (K := K) T) (hr.mono (by decide)) (by rfl) T.m_is_place T.F_is_place.kp T.b_is_place .nil passL (pa_cons (pv 0) pa_nil)))) (pss_one ps_never) pss_nil)), ?_⟩
    refine w_in (σ := [some _]) rfl ?_
    repeat (walk_at "wst")
    refine ⟨n, rfl, ?_⟩
    dsimp only
    simp only [h0, h1, decide_true, Bool.and_self]
    repeat (walk_at "wst")
    exact q
theorem ok_Queues___init__ (T : Txt K mg a) : FnOk P w K mg base (L2.CX P w) 4 a.f_Queues___init__ a.d_Queues___init__ ["self", "loads", "stores"] (sp_Queues___init__ K a) := by
  refine T.F_Queues___init__.okX sc_Queues___init__ (fun vs H Q E h => ?_) (fun cdv A outer s H vs Q E hr h => ?_)
  · obtain ⟨_, _, _, _, _, _, rfl, _⟩ := h
    rfl
  · obtain ⟨a_self, dx_self, loads, stores, F, k, rfl, hH, hm, q⟩ := h
    refine ⟨_, (pss_cons (ps_expr (pe_call (ok_want_many (K := K) T) (hr.mono (by decide)) (by rfl) T.m_want_many T.F_want_many.kp T.b_want_many .nil passL (pa_cons (pv 1) (pa_cons pe_int (pa_cons (pe_glob (v := .int 8) (by rfl) T.v_MOST_ROOMS ⟨_, rfl⟩) pa_nil)))))
      (pss_cons (ps_expr (pe_call (ok_want_many (K := K) T) (hr.mono (by decide)) (by rfl) T.m_want_many T.F_want_many.kp T.b_want_many .nil passL (pa_cons (pv 2) (pa_cons pe_int (pa_cons (pe_glob (v := .int 8) (by rfl) T.v_MOST_ROOMS ⟨_, rfl⟩) pa_nil)))))
      (pss_cons (ps_fld (pv 0) (pv 1) rfl)
      (pss_cons (ps_fld (pv 0) (pv 2) rfl)
      (pss_cons (ps_fld (pv 0) (pe_lst pa_nil) rfl)
      (pss_one (ps_fld (pv 0) (pe_lst pa_nil) rfl))))))), ?_⟩
    try simp only [cxOf_K]
    refine w_in (σ := [some _, some _, some _]) rfl ?_
    refine Holds.go hH ?_
    unfold m_Queues___init__ at hm
    repeat (walk_at "go")
theorem ok_Queues_all_numbers (T : Txt K mg a) : FnOk P w K mg base (L2.CX P w) 1 a.f_Queues_all_numbers a.d_Queues_all_numbers ["self"] (sp_Queues_all_numbers K a) := by
  refine T.F_Queues_all_numbers.okX sc_Queues_all_numbers (fun vs H Q E h => ?_) (fun cdv A outer s H vs Q E hr h => ?_)
  · obtain ⟨_, _, _, _, rfl, _⟩ := h
    rfl
  · obtain ⟨a_self, self, F, k, rfl, hH, hm, q⟩ := h
    refine ⟨_, (pss_one (ps_ret (pe_callB cr_sortedI (by rfl) T.z_sorted (by decide +kernel) (pa_cons (pe_op op_cat (pe_lc (own := [("row", 1)]) (g := gName 1) (tt := tYes) rfl sc_Queues_all_numbers.nd (pi_list (pe_fld (pv 0) rfl)) (blkOk_by (N := ["self", "row"]) (sc := defScope s_Queues_all_numbers) (by decide +kernel)) (fun _ _ _ _ _ => (pg_name (i := 1) sc_Queues_all_numbers.nd rfl (Or.inl rfl))) (fun _ _ _ _ _ => pts_nil) (fun _ _ _ _ _ => (pe_ix (ixTK (K := K)) (pv 1) pe_int (fun _ _ => rfl)))) (pe_lc (own := [("row", 1)]) (g := gName 1) (tt := tYes) rfl sc_Queues_all_numbers.nd (pi_list (pe_fld (pv 0) rfl)) (blkOk_by (N := ["self", "row"]) (sc := defScope s_Queues_all_numbers) (by decide +kernel)) (fun _ _ _ _ _ => (pg_name (i := 1) sc_Queues_all_numbers.nd rfl (Or.inl rfl))) (fun _ _ _ _ _ => pts_nil) (fun _ _ _ _ _ => (pe_ix (ixTK (K := K)) (pv 1) pe_int (fun _ _ => rfl))))) pa_nil)))), ?_⟩
    try simp only [cxOf_K]
    refine w_in (σ := [some _, none]) rfl ?_
    refine Holds.go hH ?_
    unfold m_Queues_all_numbers at hm
    repeat (walk_at "go")
theorem ok_Queues_source_of (T : Txt K mg a) : FnOk P w K mg base (L2.CX P w) 1 a.f_Queues_source_of a.d_Queues_source_of ["self", "number", "place"] (sp_Queues_source_of K a) := by
  refine T.F_Queues_source_of.okX sc_Queues_source_of (fun vs H Q E h => ?_) (fun cdv A outer s H vs Q E hr h => ?_)
  · obtain ⟨_, _, _, _, _, _, rfl, _⟩ := h
    rfl
  · obtain ⟨a_self, self, number, place, F, k, rfl, hH, hm, q⟩ := h
    refine ⟨_, (pss_cons (ps_set (i := 3) sc_Queues_source_of.nd rfl (Or.inl rfl) (pe_tup (pa_cons pe_str pa_nil)))
      (pss_cons (ps_for (passes_of rfl) rfl (pi_list (pe_fld (pv 0) rfl)) (pg_tup rfl (pgs_cons (pg_name (i := 4) sc_Queues_source_of.nd rfl (Or.inl rfl)) (pgs_cons (pg_name (i := 5) sc_Queues_source_of.nd rfl (Or.inl rfl)) (pgs_cons (pg_name (i := 6) sc_Queues_source_of.nd rfl (Or.inl rfl)) pgs_nil))))
      (pss_one (ps_if (PW.pt (pw_and (pt_cmpR op_lt (pv 4) (pv 1) (nomark _)) (pw_and1 (pt_cmpR (op_eqC (ctE (kO (kI (K := K)))) hr.units) (pv 5) (pv 2) (nomark _))))) (pss_one (ps_set (i := 3) sc_Queues_source_of.nd rfl (Or.inl rfl) (pe_tup (pa_cons pe_str (pa_cons (pv 4) (pa_cons (pv 6) pa_nil)))))) pss_nil)))
      (pss_one (ps_ret (pv 3))))), ?_⟩
    try simp only [cxOf_K]
    refine w_in (σ := [some _, some _, some _, none, none, none, none]) rfl ?_
    refine Holds.go hH ?_
    unfold m_Queues_source_of at hm
    repeat (walk_at "gst")
    refine' c_forLs (M := ((Str) ⊕ (Str × Int × (Option Int)))) (B := V × Option V × Option V × Option V) hm (fun m b => [none, none, none, some (some (b.1)), some (b.2.1), some (b.2.2.1), some (b.2.2.2)]) (fun m b => [vl (kU (kTup (kC1 (kSt (K := K)))) (kTup (kC (kSt (K := K)) (kC (kI (K := K)) (kC1 (kO (kI (K := K)))))))) b.1 m]) (_, _, _, _) ?zh1 ?zs1 ?zt1 ?zq1 ?zd1
    case zh1 =>
      (try dsimp only); rfl
    case zs1 =>
      walk_at "subR"
    case zt1 =>
      walk_at "fr"
    case zq1 =>
      intro hbk x m b nxt hm
      walk_at "norm"
      walk_at "nv"
      repeat (walk_at "go")
    case zd1 =>
      intro m b hm
      walk_at "norm"
      repeat (walk_at "go")
theorem ok_Queues_told_known (T : Txt K mg a) : FnOk P w K mg base (L2.CX P w) 1 a.f_Queues_told_known a.d_Queues_told_known ["self", "number", "place", "word"] (sp_Queues_told_known K a) := by
  refine T.F_Queues_told_known.okX sc_Queues_told_known (fun vs H Q E h => ?_) (fun cdv A outer s H vs Q E hr h => ?_)
  · obtain ⟨_, _, _, _, _, _, _, rfl, _⟩ := h
    rfl
  · obtain ⟨a_self, self, number, place, word, F, k, rfl, hH, hm, q⟩ := h
    refine ⟨_, (pss_cons (ps_fld (pv 0) (pe_lc (own := [("row", 7)]) (g := gName 7) (tt := tYes) rfl sc_Queues_told_known.nd (pi_list (pe_fld (pv 0) rfl)) (blkOk_by (N := ["self", "number", "place", "word", "load", "there", "source", "row"]) (sc := defScope s_Queues_told_known) (by decide +kernel)) (fun _ _ _ _ _ => (pg_name (i := 7) sc_Queues_told_known.nd rfl (Or.inl rfl))) (fun _ _ _ _ _ => pts_nil) (fun _ _ _ _ _ => (pe_ifExp (pt_cmpR op_eq (pe_ix (ixTK (K := K)) (pv 7) pe_int (fun _ _ => rfl)) (pv 1) (nomark _)) (pe_tup (pa_cons (pv 1) (pa_cons (pv 2) (pa_cons (pv 3) pa_nil)))) (pv 7)))) rfl)
      (pss_cons (ps_for (passes_of rfl) rfl (pi_list (pe_fld (pv 0) rfl)) (pg_tup rfl (pgs_cons (pg_name (i := 4) sc_Queues_told_known.nd rfl (Or.inl rfl)) (pgs_cons (pg_name (i := 5) sc_Queues_told_known.nd rfl (Or.inl rfl)) (pgs_cons (pg_name (i := 6) sc_Queues_told_known.nd rfl (Or.inl rfl)) pgs_nil))))
      (pss_one (ps_if (PW.pt (pw_and (pt_cmpR op_gt (pv 4) (pv 1) (nomark _)) (pw_and (pt_cmpR (op_eqC (ctE (kO (kI (K := K)))) hr.units) (pv 5) (pv 2) (nomark _)) (pw_and1 (PW.pt (pw_or (pt_cmpR op_isNR (pv 6) pe_non (nomark _)) (pw_or1 (pt_cmpR op_lt (pv 6) (pv 1) (nomark _))))))))) (pss_one (ps_ret (pv 4))) pss_nil)))
      (pss_one (ps_ret pe_non)))), ?_⟩
    try simp only [cxOf_K]
    refine w_in (σ := [some _, some _, some _, some _, none, none, none, none]) rfl ?_
    refine Holds.go hH ?_
    unfold m_Queues_told_known at hm
    repeat (walk_at "gst")
    refine' c_forLs (M := Unit) (B := Option V × Option V × Option V) hm (fun m b => [none, none, none, none, some (b.1), some (b.2.1), some (b.2.2)]) (fun m b => []) (_, _, _) ?zh2 ?zs2 ?zt2 ?zq2 ?zd2
    case zh2 =>
      (try dsimp only); rfl
    case zs2 =>
      walk_at "subR"
    case zt2 =>
      walk_at "fr"
    case zq2 =>
      intro hbk x m b nxt hm
      walk_at "norm"
      walk_at "nv"
      repeat (walk_at "go")
    case zd2 =>
      intro m b hm
      walk_at "norm"
      repeat (walk_at "go")
theorem ok_Queues_note_read (T : Txt K mg a) : FnOk P w K mg base (L2.CX P w) 1 a.f_Queues_note_read a.d_Queues_note_read ["self", "number", "place", "source"] (sp_Queues_note_read K a) := by
  refine T.F_Queues_note_read.okX sc_Queues_note_read (fun vs H Q E h => ?_) (fun cdv A outer s H vs Q E hr h => ?_)
  · obtain ⟨_, _, _, _, _, _, _, _, rfl, _⟩ := h
    rfl
  · obtain ⟨a_self, self, number, place, source, v_source, F, k, rfl, hH, hm, q⟩ := h
    refine ⟨_, (pss_one (ps_fld (pv 0) (pe_lc (own := [("row", 4)]) (g := gName 4) (tt := tYes) rfl sc_Queues_note_read.nd (pi_list (pe_fld (pv 0) rfl)) (blkOk_by (N := ["self", "number", "place", "source", "row"]) (sc := defScope s_Queues_note_read) (by decide +kernel)) (fun _ _ _ _ _ => (pg_name (i := 4) sc_Queues_note_read.nd rfl (Or.inl rfl))) (fun _ _ _ _ _ => pts_nil) (fun _ _ _ _ _ => (pe_ifExp (pt_cmpR op_eq (pe_ix (ixTK (K := K)) (pv 4) pe_int (fun _ _ => rfl)) (pv 1) (nomark _)) (pe_tup (pa_cons (pv 1) (pa_cons (pv 2) (pa_cons (pv 3) pa_nil)))) (pv 4)))) rfl)), ?_⟩
    try simp only [cxOf_K]
    refine w_in (σ := [some _, some _, some _, some _, none]) rfl ?_
    refine Holds.go hH ?_
    unfold m_Queues_note_read at hm
    repeat (walk_at "go")
theorem ok_Queues_drop_from (T : Txt K mg a) : FnOk P w K mg base (L2.CX P w) 1 a.f_Queues_drop_from a.d_Queues_drop_from ["self", "number"] (sp_Queues_drop_from K a) := by
  refine T.F_Queues_drop_from.okX sc_Queues_drop_from (fun vs H Q E h => ?_) (fun cdv A outer s H vs Q E hr h => ?_)
  · obtain ⟨_, _, _, _, _, rfl, _⟩ := h
    rfl
  · obtain ⟨a_self, self, number, F, k, rfl, hH, hm, q⟩ := h
    refine ⟨_, (pss_cons (ps_fld (pv 0) (pe_lc (own := [("row", 2)]) (g := gName 2) rfl sc_Queues_drop_from.nd (pi_list (pe_fld (pv 0) rfl)) (blkOk_by (N := ["self", "number", "row"]) (sc := defScope s_Queues_drop_from) (by decide +kernel)) (fun _ _ _ _ _ => (pg_name (i := 2) sc_Queues_drop_from.nd rfl (Or.inl rfl))) (fun _ _ _ _ _ => (pts_one (pt_cmpR op_lt (pe_ix (ixTK (K := K)) (pv 2) pe_int (fun _ _ => rfl)) (pv 1) (nomark _)))) (fun _ _ _ _ _ => (pv 2))) rfl)
      (pss_one (ps_fld (pv 0) (pe_lc (own := [("row", 2)]) (g := gName 2) rfl sc_Queues_drop_from.nd (pi_list (pe_fld (pv 0) rfl)) (blkOk_by (N := ["self", "number", "row"]) (sc := defScope s_Queues_drop_from) (by decide +kernel)) (fun _ _ _ _ _ => (pg_name (i := 2) sc_Queues_drop_from.nd rfl (Or.inl rfl))) (fun _ _ _ _ _ => (pts_one (pt_cmpR op_lt (pe_ix (ixTK (K := K)) (pv 2) pe_int (fun _ _ => rfl)) (pv 1) (nomark _)))) (fun _ _ _ _ _ => (pv 2))) rfl))), ?_⟩
    try simp only [cxOf_K]
    refine w_in (σ := [some _, some _, none]) rfl ?_
    refine Holds.go hH ?_
    unfold m_Queues_drop_from at hm
    repeat (walk_at "go")
theorem ok_Queues_leave_oldest (T : Txt K mg a) : FnOk P w K mg base (L2.CX P w) 1 a.f_Queues_leave_oldest a.d_Queues_leave_oldest ["self", "number"] (sp_Queues_leave_oldest K a) := by
  refine T.F_Queues_leave_oldest.okX sc_Queues_leave_oldest (fun vs H Q E h => ?_) (fun cdv A outer s H vs Q E hr h => ?_)
  · obtain ⟨_, _, _, _, _, rfl, _⟩ := h
    rfl
  · obtain ⟨a_self, self, number, F, k, rfl, hH, hm, q⟩ := h
    refine ⟨_, (pss_cons (ps_fld (pv 0) (pe_lc (own := [("row", 2)]) (g := gName 2) rfl sc_Queues_leave_oldest.nd (pi_list (pe_fld (pv 0) rfl)) (blkOk_by (N := ["self", "number", "row"]) (sc := defScope s_Queues_leave_oldest) (by decide +kernel)) (fun _ _ _ _ _ => (pg_name (i := 2) sc_Queues_leave_oldest.nd rfl (Or.inl rfl))) (fun _ _ _ _ _ => (pts_one (pt_cmpR op_ne (pe_ix (ixTK (K := K)) (pv 2) pe_int (fun _ _ => rfl)) (pv 1) (nomark _)))) (fun _ _ _ _ _ => (pv 2))) rfl)
      (pss_one (ps_fld (pv 0) (pe_lc (own := [("row", 2)]) (g := gName 2) rfl sc_Queues_leave_oldest.nd (pi_list (pe_fld (pv 0) rfl)) (blkOk_by (N := ["self", "number", "row"]) (sc := defScope s_Queues_leave_oldest) (by decide +kernel)) (fun _ _ _ _ _ => (pg_name (i := 2) sc_Queues_leave_oldest.nd rfl (Or.inl rfl))) (fun _ _ _ _ _ => (pts_one (pt_cmpR op_ne (pe_ix (ixTK (K := K)) (pv 2) pe_int (fun _ _ => rfl)) (pv 1) (nomark _)))) (fun _ _ _ _ _ => (pv 2))) rfl))), ?_⟩
    try simp only [cxOf_K]
    refine w_in (σ := [some _, some _, none]) rfl ?_
    refine Holds.go hH ?_
    unfold m_Queues_leave_oldest at hm
    repeat (walk_at "go")
theorem ok_Queues_want_new (T : Txt K mg a) : FnOk P w K mg base (L2.CX P w) 3 a.f_Queues_want_new a.d_Queues_want_new ["self", "number"] (sp_Queues_want_new K a) := by
  refine T.F_Queues_want_new.okX sc_Queues_want_new (fun vs H Q E h => ?_) (fun cdv A outer s H vs Q E hr h => ?_)
  · obtain ⟨_, _, _, _, _, rfl, _⟩ := h
    rfl
  · obtain ⟨a_self, self, number, F, k, rfl, hH, hm, q⟩ := h
    refine ⟨_, (pss_one (ps_if (PW.pt (pw_or (pt_not (pt_val (pe_call (ok_is_count (K := K) T) (hr.mono (by decide)) (by rfl) T.m_is_count T.F_is_count.kp T.b_is_count .nil passL (pa_cons (pv 1) pa_nil)))) (pw_or1 (PW.pt (pw_and (pt_cmpR (op_neC (ctL (ctE (kI (K := K)))) hr.units) (pe_meth0 (pv 0) T.c_Queues T.M_Queues_all_numbers (ok_Queues_all_numbers (K := K) T) (hr.mono (by decide)) T.b_Queues_all_numbers .nil passL) (pe_lst pa_nil) (nomark _)) (pw_and1 (pt_cmpR op_le (pv 1) (pe_ix ix_list (pe_meth0 (pv 0) T.c_Queues T.M_Queues_all_numbers (ok_Queues_all_numbers (K := K) T) (hr.mono (by decide)) T.b_Queues_all_numbers .nil passL) (pe_un un_neg pe_int) (fun _ _ => rfl)) (nomark _)))))))) (pss_one ps_never) pss_nil)), ?_⟩
    try simp only [cxOf_K]
    refine w_in (σ := [some _, some _]) rfl ?_
    refine Holds.go hH ?_
    unfold m_Queues_want_new at hm
    repeat (walk_at "go")
theorem ok_Queues_row_of (T : Txt K mg a) : FnOk P w K mg base (L2.CX P w) 3 a.f_Queues_row_of a.d_Queues_row_of ["self", "rows", "number"] (sp_Queues_row_of K a) := by
  refine T.F_Queues_row_of.okX sc_Queues_row_of (fun vs H Q E h => ?_) (fun cdv A outer s H vs Q E hr h => ?_)
  · obtain ⟨_, _, _, _, _, _, rfl, _⟩ := h
    rfl
  · obtain ⟨a_self, a_rows, rows, number, F, k, rfl, hH, hm, q⟩ := h
    refine ⟨_, (pss_cons (ps_setLc (i := 3) (own := [("row", 4)]) (g := gName 4) rfl sc_Queues_row_of.nd rfl rfl (sw_true rfl rfl rfl (by decide +kernel)) (pi_list (pv 1)) (blkOk_by (N := ["self", "rows", "number", "found", "row"]) (sc := defScope s_Queues_row_of) (by decide +kernel)) (fun _ _ _ _ _ => (pg_name (i := 4) sc_Queues_row_of.nd rfl (Or.inl rfl))) (fun _ _ _ _ _ => (pts_one (PW.pt (pw_and (pt_val (pe_call (ok_is_count (K := K) T) (hr.mono (by decide)) (by rfl) T.m_is_count T.F_is_count.kp T.b_is_count .nil passL (pa_cons (pv 2) pa_nil))) (pw_and1 (pt_cmpR op_eq (pe_ix (ixTK (K := K)) (pv 4) pe_int (fun _ _ => rfl)) (pv 2) (nomark _))))))) (fun _ _ _ _ _ => (pv 4)))
      (pss_cons (ps_if (pt_cmpR (op_eqC (ctL (ctE (kTup (kC (kI (K := K)) (kC (kO (kI (K := K))) (kC1 (kO (kI (K := K))))))))) hr.units) (pv 3) (pe_lst pa_nil) (nomark _)) (pss_one ps_never) pss_nil)
      (pss_one (ps_ret (pe_ix ix_list (pv 3) pe_int (fun _ _ => rfl)))))), ?_⟩
    try simp only [cxOf_K]
    refine w_in (σ := [some _, some _, some _, none, none]) rfl ?_
    refine Holds.go hH ?_
    unfold m_Queues_row_of at hm
    repeat (walk_at "go")
theorem ok_Queues_is_source (T : Txt K mg a) : FnOk P w K mg base (L2.CX P w) 3 a.f_Queues_is_source a.d_Queues_is_source ["self", "number", "place", "value"] (sp_Queues_is_source K a) := by
  refine T.F_Queues_is_source.okX sc_Queues_is_source (fun vs H Q E h => ?_) (fun cdv A outer s H vs Q E hr h => ?_)
  · obtain ⟨_, _, _, _, _, _, _, _, rfl, _⟩ := h
    rfl
  · obtain ⟨a_self, self, number, place, value, v_value, F, k, rfl, hH, hm, q⟩ := h
    refine ⟨_, (pss_cons (ps_if (pt_cmpR op_isNR (pv 3) pe_non (nomark _)) (pss_one (ps_ret pe_bl)) pss_nil)
      (pss_cons (ps_setLc (i := 4) (own := [("row", 5)]) (g := gName 5) rfl sc_Queues_is_source.nd rfl rfl (sw_true rfl rfl rfl (by decide +kernel)) (pi_list (pe_fld (pv 0) rfl)) (blkOk_by (N := ["self", "number", "place", "value", "rows", "row"]) (sc := defScope s_Queues_is_source) (by decide +kernel)) (fun _ _ _ _ _ => (pg_name (i := 5) sc_Queues_is_source.nd rfl (Or.inl rfl))) (fun _ _ _ _ _ => (pts_one (PW.pt (pw_and (pt_val (pe_call (ok_is_count (K := K) T) (hr.mono (by decide)) (by rfl) T.m_is_count T.F_is_count.kp T.b_is_count .nil passL (pa_cons (pv 3) pa_nil))) (pw_and1 (pt_cmpR (op_eqC (ctE (kO (kI (K := K)))) hr.units) (pe_ix (ixTK (K := K)) (pv 5) pe_int (fun _ _ => rfl)) (pv 3) (nomark _))))))) (fun _ _ _ _ _ => (pv 5)))
      (pss_one (ps_ret (pe_and (pe_cmpR (op_neC (ctL (ctE (kTup (kC (kI (K := K)) (kC (kO (kI (K := K))) (kC1 (kO (kI (K := K))))))))) hr.units) (pv 4) (pe_lst pa_nil) (nomark _)) (pe_and (pe_cmpR (op_eqC (ctE (kO (kI (K := K)))) hr.units) (pe_ix ix_tup (pe_ix ix_list (pv 4) pe_int (fun _ _ => rfl)) pe_int (fun _ _ => rfl)) (pv 2) (nomark _)) (pe_one (pe_cmpR op_lt (pv 3) (pv 1) (nomark _))))))))), ?_⟩
    try simp only [cxOf_K]
    refine w_in (σ := [some _, some _, some _, some _, none, none]) rfl ?_
    refine Holds.go hH ?_
    unfold m_Queues_is_source at hm
    repeat (walk_at "go")
theorem ok_Queues_can_load (T : Txt K mg a) : FnOk P w K mg base (L2.CX P w) 1 a.f_Queues_can_load a.d_Queues_can_load ["self"] (sp_Queues_can_load K a) := by
  refine T.F_Queues_can_load.okX sc_Queues_can_load (fun vs H Q E h => ?_) (fun cdv A outer s H vs Q E hr h => ?_)
  · obtain ⟨_, _, _, _, rfl, _⟩ := h
    rfl
  · obtain ⟨a_self, self, F, k, rfl, hH, hm, q⟩ := h
    refine ⟨_, (pss_one (ps_ret (pe_cmpR op_lt (pe_callB (call_lenK (K := K)) (by rfl) T.z_len (by decide +kernel) (pa_cons (pe_fld (pv 0) rfl) pa_nil)) (pe_fld (pv 0) rfl) (nomark _)))), ?_⟩
    try simp only [cxOf_K]
    refine w_in (σ := [some _]) rfl ?_
    refine Holds.go hH ?_
    unfold m_Queues_can_load at hm
    repeat (walk_at "go")
theorem ok_Queues_can_store (T : Txt K mg a) : FnOk P w K mg base (L2.CX P w) 1 a.f_Queues_can_store a.d_Queues_can_store ["self"] (sp_Queues_can_store K a) := by
  refine T.F_Queues_can_store.okX sc_Queues_can_store (fun vs H Q E h => ?_) (fun cdv A outer s H vs Q E hr h => ?_)
  · obtain ⟨_, _, _, _, rfl, _⟩ := h
    rfl
  · obtain ⟨a_self, self, F, k, rfl, hH, hm, q⟩ := h
    refine ⟨_, (pss_one (ps_ret (pe_cmpR op_lt (pe_callB (call_lenK (K := K)) (by rfl) T.z_len (by decide +kernel) (pa_cons (pe_fld (pv 0) rfl) pa_nil)) (pe_fld (pv 0) rfl) (nomark _)))), ?_⟩
    try simp only [cxOf_K]
    refine w_in (σ := [some _]) rfl ?_
    refine Holds.go hH ?_
    unfold m_Queues_can_store at hm
    repeat (walk_at "go")
theorem ok_Queues_load_entered (T : Txt K mg a) : FnOk P w K mg base (L2.CX P w) 4 a.f_Queues_load_entered a.d_Queues_load_entered ["self", "number"] (sp_Queues_load_entered K a) := by
  refine T.F_Queues_load_entered.okX sc_Queues_load_entered (fun vs H Q E h => ?_) (fun cdv A outer s H vs Q E hr h => ?_)
  · obtain ⟨_, _, _, _, _, rfl, _⟩ := h
    rfl
  · obtain ⟨a_self, self, number, F, k, rfl, hH, hm, q⟩ := h
    refine ⟨_, (pss_cons (ps_expr (pe_meth (pv 0) T.c_Queues T.M_Queues_want_new (ok_Queues_want_new (K := K) T) (hr.mono (by decide)) T.b_Queues_want_new .nil passL (pa_cons (pv 1) pa_nil)))
      (pss_cons (ps_if (pt_not (pt_val (pe_prop (pv 0) T.c_Queues T.p_Queues_can_load (ok_Queues_can_load (K := K) T) (hr.mono (by decide)) T.b_Queues_can_load .nil passL rfl))) (pss_one ps_never) pss_nil)
      (pss_one (ps_fld (pv 0) (pe_op op_cat (pe_fld (pv 0) rfl) (pe_lst (pa_cons (pe_tup (pa_cons (pv 1) (pa_cons pe_non (pa_cons pe_non pa_nil)))) pa_nil))) rfl)))), ?_⟩
    try simp only [cxOf_K]
    refine w_in (σ := [some _, some _]) rfl ?_
    refine Holds.go hH ?_
    unfold m_Queues_load_entered at hm
    repeat (walk_at "go")
theorem ok_Queues_store_entered (T : Txt K mg a) : FnOk P w K mg base (L2.CX P w) 4 a.f_Queues_store_entered a.d_Queues_store_entered ["self", "number"] (sp_Queues_store_entered K a) := by
  refine T.F_Queues_store_entered.okX sc_Queues_store_entered (fun vs H Q E h => ?_) (fun cdv A outer s H vs Q E hr h => ?_)
  · obtain ⟨_, _, _, _, _, rfl, _⟩ := h
    rfl
  · obtain ⟨a_self, self, number, F, k, rfl, hH, hm, q⟩ := h
    refine ⟨_, (pss_cons (ps_expr (pe_meth (pv 0) T.c_Queues T.M_Queues_want_new (ok_Queues_want_new (K := K) T) (hr.mono (by decide)) T.b_Queues_want_new .nil passL (pa_cons (pv 1) pa_nil)))
      (pss_cons (ps_if (pt_not (pt_val (pe_prop (pv 0) T.c_Queues T.p_Queues_can_store (ok_Queues_can_store (K := K) T) (hr.mono (by decide)) T.b_Queues_can_store .nil passL rfl))) (pss_one ps_never) pss_nil)
      (pss_one (ps_fld (pv 0) (pe_op op_cat (pe_fld (pv 0) rfl) (pe_lst (pa_cons (pe_tup (pa_cons (pv 1) (pa_cons pe_non (pa_cons pe_non pa_nil)))) pa_nil))) rfl)))), ?_⟩
    try simp only [cxOf_K]
    refine w_in (σ := [some _, some _]) rfl ?_
    refine Holds.go hH ?_
    unfold m_Queues_store_entered at hm
    repeat (walk_at "go")
theorem ok_Queues_known (T : Txt K mg a) : FnOk P w K mg base (L2.CX P w) 5 a.f_Queues_known a.d_Queues_known ["self", "number", "place", "word"] (sp_Queues_known K a) := by
  refine T.F_Queues_known.okX sc_Queues_known (fun vs H Q E h => ?_) (fun cdv A outer s H vs Q E hr h => ?_)
  · obtain ⟨_, _, _, _, _, _, _, rfl, _⟩ := h
    rfl
  · obtain ⟨a_self, self, number, place, word, F, k, rfl, hH, hm, q⟩ := h
    refine ⟨_, (pss_cons (ps_set (i := 4) sc_Queues_known.nd rfl (Or.inl rfl) (pe_meth (pv 0) T.c_Queues T.M_Queues_row_of (ok_Queues_row_of (K := K) T) (hr.mono (by decide)) T.b_Queues_row_of .nil passL (pa_cons (pe_fld (pv 0) rfl) (pa_cons (pv 1) pa_nil))))
      (pss_cons (ps_expr (pe_call (ok_want_place (K := K) T) (hr.mono (by decide)) (by rfl) T.m_want_place T.F_want_place.kp T.b_want_place .nil passL (pa_cons (pv 2) pa_nil)))
      (pss_cons (ps_expr (pe_call (ok_want_word (K := K) T) (hr.mono (by decide)) (by rfl) T.m_want_word T.F_want_word.kp T.b_want_word .nil passL (pa_cons (pv 3) pa_nil)))
      (pss_cons (ps_if (pt_cmpR op_noNR (pe_ix ix_tup (pv 4) pe_int (fun _ _ => rfl)) pe_non (nomark _)) (pss_one ps_never) pss_nil)
      (pss_one (ps_ret (pe_meth (pv 0) T.c_Queues T.M_Queues_told_known (ok_Queues_told_known (K := K) T) (hr.mono (by decide)) T.b_Queues_told_known .nil passL (pa_cons (pv 1) (pa_cons (pv 2) (pa_cons (pv 3) pa_nil)))))))))), ?_⟩
    try simp only [cxOf_K]
    refine w_in (σ := [some _, some _, some _, some _, none]) rfl ?_
    refine Holds.go hH ?_
    unfold m_Queues_known at hm
    repeat (walk_at "go")
theorem ok_Queues_source (T : Txt K mg a) : FnOk P w K mg base (L2.CX P w) 5 a.f_Queues_source a.d_Queues_source ["self", "number", "place"] (sp_Queues_source K a) := by
  refine T.F_Queues_source.okX sc_Queues_source (fun vs H Q E h => ?_) (fun cdv A outer s H vs Q E hr h => ?_)
  · obtain ⟨_, _, _, _, _, _, rfl, _⟩ := h
    rfl
  · obtain ⟨a_self, self, number, place, F, k, rfl, hH, hm, q⟩ := h
    refine ⟨_, (pss_cons (ps_expr (pe_meth (pv 0) T.c_Queues T.M_Queues_row_of (ok_Queues_row_of (K := K) T) (hr.mono (by decide)) T.b_Queues_row_of .nil passL (pa_cons (pe_fld (pv 0) rfl) (pa_cons (pv 1) pa_nil))))
      (pss_cons (ps_expr (pe_call (ok_want_place (K := K) T) (hr.mono (by decide)) (by rfl) T.m_want_place T.F_want_place.kp T.b_want_place .nil passL (pa_cons (pv 2) pa_nil)))
      (pss_one (ps_ret (pe_meth (pv 0) T.c_Queues T.M_Queues_source_of (ok_Queues_source_of (K := K) T) (hr.mono (by decide)) T.b_Queues_source_of .nil passL (pa_cons (pv 1) (pa_cons (pv 2) pa_nil))))))), ?_⟩
    try simp only [cxOf_K]
    refine w_in (σ := [some _, some _, some _]) rfl ?_
    refine Holds.go hH ?_
    unfold m_Queues_source at hm
    repeat (walk_at "go")
theorem ok_Queues_read (T : Txt K mg a) : FnOk P w K mg base (L2.CX P w) 5 a.f_Queues_read a.d_Queues_read ["self", "number", "place", "source"] (sp_Queues_read K a) := by
  refine T.F_Queues_read.okX sc_Queues_read (fun vs H Q E h => ?_) (fun cdv A outer s H vs Q E hr h => ?_)
  · obtain ⟨_, _, _, _, _, _, _, _, rfl, _⟩ := h
    rfl
  · obtain ⟨a_self, self, number, place, source, v_source, F, k, rfl, hH, hm, q⟩ := h
    refine ⟨_, (pss_cons (ps_set (i := 4) sc_Queues_read.nd rfl (Or.inl rfl) (pe_meth (pv 0) T.c_Queues T.M_Queues_row_of (ok_Queues_row_of (K := K) T) (hr.mono (by decide)) T.b_Queues_row_of .nil passL (pa_cons (pe_fld (pv 0) rfl) (pa_cons (pv 1) pa_nil))))
      (pss_cons (ps_expr (pe_call (ok_want_place (K := K) T) (hr.mono (by decide)) (by rfl) T.m_want_place T.F_want_place.kp T.b_want_place .nil passL (pa_cons (pv 2) pa_nil)))
      (pss_cons (ps_if (pt_not (pt_val (pe_meth (pv 0) T.c_Queues T.M_Queues_is_source (ok_Queues_is_source (K := K) T) (hr.mono (by decide)) T.b_Queues_is_source .nil passL (pa_cons (pv 1) (pa_cons (pv 2) (pa_cons (pv 3) pa_nil)))))) (pss_one ps_never) pss_nil)
      (pss_cons (ps_if (pt_cmpR op_noNR (pe_ix ix_tup (pv 4) pe_int (fun _ _ => rfl)) pe_non (nomark _)) (pss_one ps_never) pss_nil)
      (pss_one (ps_expr (pe_meth (pv 0) T.c_Queues T.M_Queues_note_read (ok_Queues_note_read (K := K) T) (hr.mono (by decide)) T.b_Queues_note_read .nil passL (pa_cons (pv 1) (pa_cons (pv 2) (pa_cons (pv 3) pa_nil)))))))))), ?_⟩
    try simp only [cxOf_K]
    refine w_in (σ := [some _, some _, some _, some _, none]) rfl ?_
    refine Holds.go hH ?_
    unfold m_Queues_read at hm
    repeat (walk_at "go")
theorem ok_Queues_leave (T : Txt K mg a) : FnOk P w K mg base (L2.CX P w) 4 a.f_Queues_leave a.d_Queues_leave ["self", "number"] (sp_Queues_leave K a) := by
  refine T.F_Queues_leave.okX sc_Queues_leave (fun vs H Q E h => ?_) (fun cdv A outer s H vs Q E hr h => ?_)
  · obtain ⟨_, _, _, _, _, rfl, _⟩ := h
    rfl
  · obtain ⟨a_self, self, number, F, k, rfl, hH, hm, q⟩ := h
    refine ⟨_, (pss_cons (ps_expr (pe_meth (pv 0) T.c_Queues T.M_Queues_row_of (ok_Queues_row_of (K := K) T) (hr.mono (by decide)) T.b_Queues_row_of .nil passL (pa_cons (pe_op op_cat (pe_fld (pv 0) rfl) (pe_fld (pv 0) rfl)) (pa_cons (pv 1) pa_nil))))
      (pss_cons (ps_if (pt_cmpR op_ne (pe_ix ix_list (pe_meth0 (pv 0) T.c_Queues T.M_Queues_all_numbers (ok_Queues_all_numbers (K := K) T) (hr.mono (by decide)) T.b_Queues_all_numbers .nil passL) pe_int (fun _ _ => rfl)) (pv 1) (nomark _)) (pss_one ps_never) pss_nil)
      (pss_one (ps_expr (pe_meth (pv 0) T.c_Queues T.M_Queues_leave_oldest (ok_Queues_leave_oldest (K := K) T) (hr.mono (by decide)) T.b_Queues_leave_oldest .nil passL (pa_cons (pv 1) pa_nil)))))), ?_⟩
    try simp only [cxOf_K]
    refine w_in (σ := [some _, some _]) rfl ?_
    refine Holds.go hH ?_
    unfold m_Queues_leave at hm
    repeat (walk_at "go")
theorem ok_Queues_dropped (T : Txt K mg a) : FnOk P w K mg base (L2.CX P w) 3 a.f_Queues_dropped a.d_Queues_dropped ["self", "number"] (sp_Queues_dropped K a) := by
  refine T.F_Queues_dropped.okX sc_Queues_dropped (fun vs H Q E h => ?_) (fun cdv A outer s H vs Q E hr h => ?_)
  · obtain ⟨_, _, _, _, _, rfl, _⟩ := h
    rfl
  · obtain ⟨a_self, self, number, F, k, rfl, hH, hm, q⟩ := h
    refine ⟨_, (pss_cons (ps_if (pt_not (pt_val (pe_call (ok_is_count (K := K) T) (hr.mono (by decide)) (by rfl) T.m_is_count T.F_is_count.kp T.b_is_count .nil passL (pa_cons (pv 1) pa_nil)))) (pss_one ps_never) pss_nil)
      (pss_one (ps_expr (pe_meth (pv 0) T.c_Queues T.M_Queues_drop_from (ok_Queues_drop_from (K := K) T) (hr.mono (by decide)) T.b_Queues_drop_from .nil passL (pa_cons (pv 1) pa_nil))))), ?_⟩
    try simp only [cxOf_K]
    refine w_in (σ := [some _, some _]) rfl ?_
    refine Holds.go hH ?_
    unfold m_Queues_dropped at hm
    repeat (walk_at "go")
theorem ok_Queues_loads (T : Txt K mg a) : FnOk P w K mg base (L2.CX P w) 1 a.f_Queues_loads a.d_Queues_loads ["self"] (sp_Queues_loads K a) := by
  refine T.F_Queues_loads.okX sc_Queues_loads (fun vs H Q E h => ?_) (fun cdv A outer s H vs Q E hr h => ?_)
  · obtain ⟨_, _, _, _, rfl, _⟩ := h
    rfl
  · obtain ⟨a_self, self, F, k, rfl, hH, hm, q⟩ := h
    refine ⟨_, (pss_one (ps_ret (pe_callTy (call_listK (K := K)) (by rfl) T.z_list (by decide +kernel) (pa_cons (pe_fld (pv 0) rfl) pa_nil)))), ?_⟩
    try simp only [cxOf_K]
    refine w_in (σ := [some _]) rfl ?_
    refine Holds.go hH ?_
    unfold m_Queues_loads at hm
    repeat (walk_at "go")
theorem ok_Queues_stores (T : Txt K mg a) : FnOk P w K mg base (L2.CX P w) 1 a.f_Queues_stores a.d_Queues_stores ["self"] (sp_Queues_stores K a) := by
  refine T.F_Queues_stores.okX sc_Queues_stores (fun vs H Q E h => ?_) (fun cdv A outer s H vs Q E hr h => ?_)
  · obtain ⟨_, _, _, _, rfl, _⟩ := h
    rfl
  · obtain ⟨a_self, self, F, k, rfl, hH, hm, q⟩ := h
    refine ⟨_, (pss_one (ps_ret (pe_callTy (call_listK (K := K)) (by rfl) T.z_list (by decide +kernel) (pa_cons (pe_fld (pv 0) rfl) pa_nil)))), ?_⟩
    try simp only [cxOf_K]
    refine w_in (σ := [some _]) rfl ?_
    refine Holds.go hH ?_
    unfold m_Queues_stores at hm
    repeat (walk_at "go")
-- no proof of Queues.__eq__
theorem ok__law_pot (T : Txt K mg a) : FnOk P w K mg base (L2.CX P w) 1 a.f__law_pot a.d__law_pot ["_law_script", "_law_k"] (aPot K) := by
  refine T.F__law_pot.okX sc__law_pot (fun vs H Q E h => ?_) (fun cdv A outer s H vs Q E hr h => ?_)
  · obtain ⟨_, _, _, _, rfl, _⟩ := h
    rfl
  · obtain ⟨sa, ns, k, F, rfl, hH, hk0, hk1, q⟩ := h
    refine ⟨_, (pss_cons (ps_set (i := 2) sc__law_pot.nd rfl (Or.inl rfl) (pe_op op_add (pe_op op_mul pe_int (pv 1)) pe_int))
      (pss_cons (ps_if (pt_cmpR op_lt (pv 1) (pe_callB (call_lenK (K := K)) (by rfl) T.z_len (by decide +kernel) (pa_cons (pv 0) pa_nil)) (nomark _)) (pss_one (ps_set (i := 2) sc__law_pot.nd rfl (Or.inl rfl) (pe_callB call_abs (by rfl) T.z_abs (by decide +kernel) (pa_cons (pe_ix ix_list (pv 0) (pv 1) (fun _ _ => rfl)) pa_nil)))) pss_nil)
      (pss_one (ps_ret (pe_lst (pa_cons (pe_callB (call_max2 rfl) (by rfl) T.z_max (by decide +kernel) (pa_cons pe_int (pa_cons (pe_op op_sub (pv 2) (pe_op op_pow pe_int pe_int)) pa_nil))) (pa_cons (pe_op op_add (pe_op op_mod (pe_callTy call_int1 (by rfl) T.z_int (by decide +kernel) (pa_cons (pe_op op_add (pe_op op_mul (pe_op op_mod (pe_callTy call_int1 (by rfl) T.z_int (by decide +kernel) (pa_cons (pv 2) pa_nil)) pe_int) (pe_op op_add (pe_op op_mul pe_int (pv 1)) pe_int)) pe_int) pa_nil)) pe_int) pe_int) pa_nil))))))), ?_⟩
    try simp only [cxOf_K]
    refine w_in (σ := [some _, some _, none]) rfl ?_
    refine Holds.go hH ?_
    repeat (walk_at "st")
    refine eS (fun h => ?_) (fun h => ?_)
    · obtain ⟨n, _, e, _⟩ := atI_ints hk0 h
      repeat (walk_at "st")
      exact Ent.sub (Sub.pot ⟨by split <;> omega, by omega, by omega⟩) (q _)
    · repeat (walk_at "st")
      exact Ent.sub (Sub.pot ⟨by split <;> omega, by omega, by omega⟩) (q _)
theorem ok__law_draw (T : Txt K mg a) : FnOk P w K mg base (L2.CX P w) 1 a.f__law_draw a.d__law_draw ["_law_pot_here", "_law_size"] aDraw := by
  refine T.F__law_draw.okX sc__law_draw (fun vs H Q E h => ?_) (fun cdv A outer s H vs Q E hr h => ?_)
  · obtain ⟨_, _, _, rfl, _⟩ := h
    rfl
  · obtain ⟨p, n, F, rfl, hH, hn, hn2, q⟩ := h
    refine ⟨_, (pss_cons (ps_if (pt_cmpR op_gt (pe_ix ix_list (pv 0) pe_int (fun _ _ => rfl)) pe_int (nomark _)) (pss_cons (ps_asg (pe_callB call_divK (by rfl) T.z_divmod (by decide +kernel) (pa_cons (pe_ix ix_list (pv 0) pe_int (fun _ _ => rfl)) (pa_cons (pv 1) pa_nil))) (pg_tup rfl (pgs_cons (pg_sub (pv 0) pe_int set_list) (pgs_cons (pg_name (i := 2) sc__law_draw.nd rfl (Or.inl rfl)) pgs_nil))))
      (pss_one (ps_ret (pv 2)))) pss_nil)
      (pss_cons (ps_asg (pe_op op_mod (pe_callTy call_int1 (by rfl) T.z_int (by decide +kernel) (pa_cons (pe_op op_add (pe_op op_mul (pe_ix ix_list (pv 0) pe_int (fun _ _ => rfl)) pe_int) pe_int) pa_nil)) pe_int) (pg_sub (pv 0) pe_int set_list))
      (pss_one (ps_ret (pe_op op_mod (pe_callTy call_int1 (by rfl) T.z_int (by decide +kernel) (pa_cons (pe_op op_fdiv (pe_op op_mod (pe_callTy call_int1 (by rfl) T.z_int (by decide +kernel) (pa_cons (pe_op op_mul (pe_ix ix_list (pv 0) pe_int (fun _ _ => rfl)) (pe_ix ix_list (pv 0) pe_int (fun _ _ => rfl))) pa_nil)) pe_int) pe_int) pa_nil)) (pv 1)))))), ?_⟩
    try simp only [cxOf_K]
    refine w_in (σ := [some _, some _, none]) rfl ?_
    refine Holds.go hH ?_
    refine Ent.pot fun x y hx hy hy2 => ?_
    repeat (walk_at "st")
    refine eS (fun h => ?_) (fun h => ?_)
    · repeat (walk_at "st")
      refine Ent.sub ?_ (q _ (Int.emod_nonneg _ (by omega)) (Int.emod_lt_of_pos _ hn))
      exact Sub.trans (Sub.pot ⟨Int.ediv_nonneg hx (by omega), hy, hy2⟩) (Sub.cons (Sub.drop Sub.refl))
    · repeat (walk_at "st")
      refine Ent.sub ?_ (q _ (Int.emod_nonneg _ (by omega)) (Int.emod_lt_of_pos _ hn))
      exact Sub.pot ⟨hx, by omega, by omega⟩
theorem ok__law_rows (T : Txt K mg a) : FnOk P w K mg base (L2.CX P w) 2 a.f__law_rows a.d__law_rows ["_law_pot_here"] (sp__law_rows K a) := by
  refine T.F__law_rows.okX sc__law_rows (fun vs H Q E h => ?_) (fun cdv A outer s H vs Q E hr h => ?_)
  · obtain ⟨_, _, _, rfl, _⟩ := h
    rfl
  · obtain ⟨a_pot_here, F, k, rfl, hH, hm, q⟩ := h
    refine ⟨_, (pss_cons (ps_set (i := 1) sc__law_rows.nd rfl (Or.inl rfl) (pe_lst pa_nil))
      (pss_cons (ps_for (passes_of rfl) rfl (pi_range1 (by rfl) T.z_range (pa_cons (pe_op op_add pe_int (pe_call (ok__law_draw (K := K) T) (hr.mono (by decide)) (by rfl) T.m__law_draw T.F__law_draw.kp T.b__law_draw .nil passL (pa_cons (pv 0) (pa_cons pe_int pa_nil)))) pa_nil)) (pg_name (i := 2) sc__law_rows.nd rfl (Or.inl rfl))
      (pss_one (ps_expr (pe_bm PySem.F.plainAttrs_list PySem.F.slot_list_append PySem.F.type_list_append mt_append (pv 1) (pa_cons (pe_tup (pa_cons (pe_cmpR op_eq (pe_call (ok__law_draw (K := K) T) (hr.mono (by decide)) (by rfl) T.m__law_draw T.F__law_draw.kp T.b__law_draw .nil passL (pa_cons (pv 0) (pa_cons pe_int pa_nil))) pe_int (nomark _)) (pa_cons (pe_call (ok__law_draw (K := K) T) (hr.mono (by decide)) (by rfl) T.m__law_draw T.F__law_draw.kp T.b__law_draw .nil passL (pa_cons (pv 0) (pa_cons pe_int pa_nil))) (pa_cons (pe_op op_add (pe_op op_mul pe_int (pe_op op_add (pv 2) pe_int)) (pe_call (ok__law_draw (K := K) T) (hr.mono (by decide)) (by rfl) T.m__law_draw T.F__law_draw.kp T.b__law_draw .nil passL (pa_cons (pv 0) (pa_cons pe_int pa_nil)))) pa_nil)))) pa_nil)))))
      (pss_one (ps_ret (pv 1))))), ?_⟩
    try simp only [cxOf_K]
    refine w_in (σ := [some _, none, none]) rfl ?_
    refine Holds.go hH ?_
    unfold m__law_rows at hm
    repeat (walk_at "gst")
    repeat (walk_at "fold1")
    refine' c_forR (M := (List (Bool × Int × Int))) (B := Addr × Option V) hm (fun m b => [none, some (some (.ref b.1)), some (b.2)]) (fun m b => [ls (kTup (kC (kB (K := K)) (kC (kI (K := K)) (kC1 (kI (K := K)))))) b.1 m]) (_, _) ?zh3 ?zs3 ?zq3 ?zd3
    case zh3 =>
      (try dsimp only); rfl
    case zs3 =>
      walk_at "subR"
    case zq3 =>
      intro hbk x m b nxt hm
      walk_at "norm"
      repeat (walk_at "go")
    case zd3 =>
      intro m b hm
      walk_at "norm"
      repeat (walk_at "go")
theorem ok__law_plain (T : Txt K mg a) : FnOk P w K mg base (L2.CX P w) 1 a.f__law_plain a.d__law_plain ["_law_rows_here"] (sp__law_plain K a) := by
  refine T.F__law_plain.okX sc__law_plain (fun vs H Q E h => ?_) (fun cdv A outer s H vs Q E hr h => ?_)
  · obtain ⟨_, _, _, _, rfl, _⟩ := h
    rfl
  · obtain ⟨a_rows_here, rows_here, F, k, rfl, hH, hm, q⟩ := h
    refine ⟨_, (pss_cons (ps_par (i := 1) (j := 2) rfl sc__law_plain.nd rfl rfl (by decide) rfl rfl (pa_cons (pe_lst (pa_cons pe_int (pa_cons pe_int (pa_cons pe_int pa_nil)))) (pa_cons (pe_lst pa_nil) pa_nil)) (by rfl))
      (pss_cons (ps_for (passes_of rfl) rfl (pi_list (pv 0)) (pg_tup rfl (pgs_cons (pg_name (i := 3) sc__law_plain.nd rfl (Or.inl rfl)) (pgs_cons (pg_name (i := 4) sc__law_plain.nd rfl (Or.inl rfl)) (pgs_cons (pg_name (i := 5) sc__law_plain.nd rfl (Or.inl rfl)) pgs_nil))))
      (Evl.pss_cut (ps_if (pt_val (pv 3)) (pss_one (ps_asg (pv 5) (pg_sub (pv 1) (pv 4) set_list))) pss_nil)
      (pss_one (ps_expr (pe_bm PySem.F.plainAttrs_list PySem.F.slot_list_append PySem.F.type_list_append mt_append (pv 2) (pa_cons (pe_cut (pe_ifExp (pt_val (pv 3)) pe_non (pe_ix ix_list (pv 1) (pv 4) (fun _ _ => rfl)))) pa_nil))))))
      (pss_one (ps_ret (pe_tup (pa_cons (pv 2) (pa_cons (pv 1) pa_nil))))))), ?_⟩
    try simp only [cxOf_K]
    refine w_in (σ := [some _, none, none, none, none, none]) rfl ?_
    refine Holds.go hH ?_
    unfold m__law_plain at hm
    repeat (walk_at "gst")
    repeat (walk_at "fold1")
    refine' c_forLs (M := (List Int) × (List (Option Int))) (B := Addr × Addr × Option V × Option V × Option V) hm (fun m b => [none, some (some (.ref b.1)), some (some (.ref b.2.1)), some (b.2.2.1), some (b.2.2.2.1), some (b.2.2.2.2)]) (fun m b => [ls (kI (K := K)) b.1 m.1, ls (kO (kI (K := K))) b.2.1 m.2]) (_, _, _, _, _) ?zh5 ?zs5 ?zt5 ?zq5 ?zd5
    case zh5 =>
      (try dsimp only); rfl
    case zs5 =>
      walk_at "subR"
    case zt5 =>
      walk_at "fr"
    case zq5 =>
      intro hbk x m b nxt hm
      walk_at "norm"
      walk_at "nv"
      repeat (walk_at "gst")
      refine' c_cut (M := (List Int)) (B := Addr) (B0 := Addr × (List Int)) hm (fun b => [none, some (some (.ref b.1))]) (fun b => [ls (kI (K := K)) b.1 b.2]) (fun m b => [none, some (some (.ref b))]) (fun m b => [ls (kI (K := K)) b m]) (_, _) ?zh4 ?zs4 ?zq4 ?zd4
      case zh4 =>
        (try dsimp only); rfl
      case zs4 =>
        walk_at "subR"
      case zq4 =>
        intro jp hm
        walk_at "norm"
        repeat (walk_at "go")
      case zd4 =>
        intro m b hm
        walk_at "norm"
        repeat (walk_at "go")
    case zd5 =>
      intro m b hm
      walk_at "norm"
      repeat (walk_at "go")
theorem ok__law_read_from (T : Txt K mg a) : FnOk P w K mg base (L2.CX P w) 2 a.f__law_read_from a.d__law_read_from ["_law_queues", "_law_number"] (sp__law_read_from K a) := by
  refine T.F__law_read_from.okX sc__law_read_from (fun vs H Q E h => ?_) (fun cdv A outer s H vs Q E hr h => ?_)
  · obtain ⟨_, _, _, _, _, rfl, _⟩ := h
    rfl
  · obtain ⟨a_queues, queues, number, F, k, rfl, hH, hm, q⟩ := h
    refine ⟨_, (pss_cons (ps_for (passes_of rfl) rfl (pi_list (pe_meth0 (pv 0) T.c_Queues T.M_Queues_loads (ok_Queues_loads (K := K) T) (hr.mono (by decide)) T.b_Queues_loads .nil passL)) (pg_tup rfl (pgs_cons (pg_name (i := 2) sc__law_read_from.nd rfl (Or.inl rfl)) (pgs_cons (pg_name (i := 3) sc__law_read_from.nd rfl (Or.inl rfl)) (pgs_cons (pg_name (i := 4) sc__law_read_from.nd rfl (Or.inl rfl)) pgs_nil))))
      (pss_one (ps_if (PW.pt (pw_and (pt_cmpR op_eq (pv 2) (pv 1) (nomark _)) (pw_and1 (pt_cmpR op_noNR (pv 4) pe_non (nomark _))))) (pss_one (ps_ret (pv 4))) pss_nil)))
      (pss_one (ps_ret (pe_un un_neg pe_int)))), ?_⟩
    try simp only [cxOf_K]
    refine w_in (σ := [some _, some _, none, none, none]) rfl ?_
    refine Holds.go hH ?_
    unfold m__law_read_from at hm
    repeat (walk_at "gst")
    repeat (walk_at "fold1")
    refine' c_forLs (M := Unit) (B := Option V × Option V × Option V) hm (fun m b => [none, none, some (b.1), some (b.2.1), some (b.2.2)]) (fun m b => []) (_, _, _) ?zh6 ?zs6 ?zt6 ?zq6 ?zd6
    case zh6 =>
      (try dsimp only); rfl
    case zs6 =>
      walk_at "subR"
    case zt6 =>
      walk_at "fr"
    case zq6 =>
      intro hbk x m b nxt hm
      walk_at "norm"
      walk_at "nv"
      repeat (walk_at "go")
    case zd6 =>
      intro m b hm
      walk_at "norm"
      repeat (walk_at "go")
theorem ok__law_done (T : Txt K mg a) : FnOk P w K mg base (L2.CX P w) 6 a.f__law_done a.d__law_done ["_law_queues", "_law_memory", "_law_rows_here", "_law_flight", "_law_at"] (sp__law_done K a) := by
  refine T.F__law_done.okX sc__law_done (fun vs H Q E h => ?_) (fun cdv A outer s H vs Q E hr h => ?_)
  · obtain ⟨_, _, _, _, _, _, _, _, _, _, _, rfl, _⟩ := h
    rfl
  · obtain ⟨a_queues, queues, a_memory, memory, a_rows_here, rows_here, a_flight, flight, at_, F, k, rfl, hH, hm, q⟩ := h
    refine ⟨_, (pss_cons (ps_asg (pe_ix ix_list (pv 3) (pv 4) (fun _ _ => rfl)) (pg_tup rfl (pgs_cons (pg_name (i := 5) sc__law_done.nd rfl (Or.inl rfl)) (pgs_cons (pg_name (i := 6) sc__law_done.nd rfl (Or.inr rfl)) (pgs_cons (pg_name (i := 7) sc__law_done.nd rfl (Or.inl rfl)) (pgs_cons (pg_name (i := 8) sc__law_done.nd rfl (Or.inl rfl)) pgs_nil))))))
      (pss_cons (ps_asg (pe_ix ix_list (pv 2) (pv 5) (fun _ _ => rfl)) (pg_tup rfl (pgs_cons (pg_name (i := 9) sc__law_done.nd rfl (Or.inl rfl)) (pgs_cons (pg_name (i := 10) sc__law_done.nd rfl (Or.inr rfl)) (pgs_cons (pg_name (i := 11) sc__law_done.nd rfl (Or.inl rfl)) pgs_nil)))))
      (pss_cons (ps_if (pt_not (pt_val (pv 9))) (pss_cons (ps_set (i := 12) sc__law_done.nd rfl (Or.inl rfl) (pe_meth (pv 0) T.c_Queues T.M_Queues_source (ok_Queues_source (K := K) T) (hr.mono (by decide)) T.b_Queues_source .nil passL (pa_cons (pv 6) (pa_cons (pv 10) pa_nil))))
      (pss_cons (ps_if (pt_cut (PW.pt (pw_and (pt_cmpR (op_neC (ctE (kU (kTup (kC1 (kSt (K := K)))) (kTup (kC (kSt (K := K)) (kC (kI (K := K)) (kC1 (kO (kI (K := K))))))))) hr.units) (pv 12) (pe_tup (pa_cons pe_str pa_nil)) (nomark _)) (pw_and1 (pt_cmpR op_gt (pe_ix ix_tup (pv 12) pe_int (fun _ _ => rfl)) (pv 6) (nomark _)))))) (pss_one (ps_ret (pe_un un_neg pe_int))) pss_nil)
      (pss_cons (ps_set (i := 8) sc__law_done.nd rfl (Or.inl rfl) (pe_cut (pe_ifExp (pt_cmpR (op_eqC (ctE (kU (kTup (kC1 (kSt (K := K)))) (kTup (kC (kSt (K := K)) (kC (kI (K := K)) (kC1 (kO (kI (K := K))))))))) hr.units) (pv 12) (pe_tup (pa_cons pe_str pa_nil)) (nomark _)) (pe_ix ix_list (pv 1) (pv 10) (fun _ _ => rfl)) (pe_ix ix_tup (pv 12) pe_int (fun _ _ => rfl)))))
      (pss_cons (ps_expr (pe_meth (pv 0) T.c_Queues T.M_Queues_read (ok_Queues_read (K := K) T) (hr.mono (by decide)) T.b_Queues_read .nil passL (pa_cons (pv 6) (pa_cons (pv 10) (pa_cons (pe_cut (pe_ifExp (pt_cmpR (op_eqC (ctE (kU (kTup (kC1 (kSt (K := K)))) (kTup (kC (kSt (K := K)) (kC (kI (K := K)) (kC1 (kO (kI (K := K))))))))) hr.units) (pv 12) (pe_tup (pa_cons pe_str pa_nil)) (nomark _)) pe_non (pe_ix ix_tup (pv 12) pe_int (fun _ _ => rfl)))) pa_nil)))))
      (pss_cons (ps_asg (pe_tup (pa_cons (pv 5) (pa_cons (pv 6) (pa_cons pe_bl (pa_cons (pv 8) pa_nil))))) (pg_sub (pv 3) (pv 4) set_list))
      (pss_one (ps_ret pe_non))))))) pss_nil)
      (pss_cons (ps_asg (pe_tup (pa_cons (pv 5) (pa_cons (pv 6) (pa_cons pe_bl (pa_cons pe_non pa_nil))))) (pg_sub (pv 3) (pv 4) set_list))
      (pss_cons (ps_set (i := 13) sc__law_done.nd rfl (Or.inl rfl) (pe_meth (pv 0) T.c_Queues T.M_Queues_known (ok_Queues_known (K := K) T) (hr.mono (by decide)) T.b_Queues_known .nil passL (pa_cons (pv 6) (pa_cons (pv 10) (pa_cons (pv 11) pa_nil)))))
      (pss_cons (ps_setLc (i := 14) (own := [("_law_one", 16)]) (g := gName 16) rfl sc__law_done.nd rfl rfl (sw_true rfl rfl rfl (by decide +kernel)) (pi_list (pe_slice sl_list (pv 3) (po_some (pe_op op_add (pv 4) pe_int)) po_none)) (blkOk_by (N := ["_law_queues", "_law_memory", "_law_rows_here", "_law_flight", "_law_at", "_law_spot", "_law_number", "_law_is_done", "_law_got", "_law_is_store", "_law_place", "_law_word", "_law_source", "_law_early", "_law_due", "_law_wrong", "_law_one"]) (sc := defScope s__law_done) (by decide +kernel)) (fun _ _ _ _ _ => (pg_name (i := 16) sc__law_done.nd rfl (Or.inl rfl))) (fun _ _ _ _ _ => (pts_one (PW.pt (pw_and (pt_val (pe_ix (ixTK (K := K)) (pv 16) pe_int (fun _ _ => rfl))) (pw_and (pt_not (pt_val (pe_ix (ixTK (K := K)) (pe_ix (ixLK (K := K)) (pv 2) (pe_ix (ixTK (K := K)) (pv 16) pe_int (fun _ _ => rfl)) (fun _ _ => rfl)) pe_int (fun _ _ => rfl)))) (pw_and1 (pt_cmpR op_eq (pe_ix (ixTK (K := K)) (pe_ix (ixLK (K := K)) (pv 2) (pe_ix (ixTK (K := K)) (pv 16) pe_int (fun _ _ => rfl)) (fun _ _ => rfl)) pe_int (fun _ _ => rfl)) (pv 10) (nomark _)))))))) (fun _ _ _ _ _ => (pe_ix (ixTK (K := K)) (pv 16) pe_int (fun _ _ => rfl))))
      (pss_cons (ps_setLc (i := 15) (own := [("_law_one", 16)]) (g := gName 16) rfl sc__law_done.nd rfl rfl (sw_true rfl rfl rfl (by decide +kernel)) (pi_list (pv 14)) (blkOk_by (N := ["_law_queues", "_law_memory", "_law_rows_here", "_law_flight", "_law_at", "_law_spot", "_law_number", "_law_is_done", "_law_got", "_law_is_store", "_law_place", "_law_word", "_law_source", "_law_early", "_law_due", "_law_wrong", "_law_one"]) (sc := defScope s__law_done) (by decide +kernel)) (fun _ _ _ _ _ => (pg_name (i := 16) sc__law_done.nd rfl (Or.inl rfl))) (fun _ _ _ _ _ => (pts_one (pt_cmpR op_lt (pe_call (ok__law_read_from (K := K) T) (hr.mono (by decide)) (by rfl) T.m__law_read_from T.F__law_read_from.kp T.b__law_read_from .nil passL (pa_cons (pv 0) (pa_cons (pv 16) pa_nil))) (pv 6) (nomark _)))) (fun _ _ _ _ _ => (pv 16)))
      (pss_one (ps_ret (pe_ifExp (pt_cmpR (op_eqC (ctE (kO (kI (K := K)))) hr.units) (pv 13) (pe_cut (pe_ifExp (pt_cmpR (op_neC (ctL (ctE (kI (K := K)))) hr.units) (pv 15) (pe_lst pa_nil) (nomark _)) (pe_ix ix_list (pv 15) pe_int (fun _ _ => rfl)) pe_non)) (nomark _)) (pv 13) (pe_un un_neg pe_int))))))))))), ?_⟩
    try simp only [cxOf_K]
    refine w_in (σ := [some _, some _, some _, some _, some _, none, none, none, none, none, none, none, none, none, none, none, none]) rfl ?_
    refine Holds.go hH ?_
    unfold m__law_done at hm
    repeat (walk_at "go")
theorem ok__law_right (T : Txt K mg a) : FnOk P w K mg base (L2.CX P w) 7 a.f__law_right a.d__law_right ["_law_pot_here"] (sp__law_right K a) := by
  refine T.F__law_right.okX sc__law_right (fun vs H Q E h => ?_) (fun cdv A outer s H vs Q E hr h => ?_)
  · obtain ⟨_, _, _, rfl, _⟩ := h
    rfl
  · obtain ⟨a_pot_here, F, k, rfl, hH, hm, q⟩ := h
    refine ⟨_, (pss_cons (ps_set (i := 1) sc__law_right.nd rfl (Or.inl rfl) (pe_call (ok__law_rows (K := K) T) (hr.mono (by decide)) (by rfl) T.m__law_rows T.F__law_rows.kp T.b__law_rows .nil passL (pa_cons (pv 0) pa_nil)))
      (pss_cons (ps_asg (pe_call (ok__law_plain (K := K) T) (hr.mono (by decide)) (by rfl) T.m__law_plain T.F__law_plain.kp T.b__law_plain .nil passL (pa_cons (pv 1) pa_nil)) (pg_tup rfl (pgs_cons (pg_name (i := 2) sc__law_right.nd rfl (Or.inl rfl)) (pgs_cons (pg_name (i := 3) sc__law_right.nd rfl (Or.inl rfl)) pgs_nil))))
      (pss_cons (ps_par (i := 4) (j := 5) rfl sc__law_right.nd rfl rfl (by decide) rfl rfl (pa_cons (pe_make T.k_Queues (ok_Queues___init__ (K := K) T) (hr.mono (by decide)) (by rfl) T.g_Queues T.b_Queues___init__ .nil passL (pa_cons (pe_op op_add pe_int (pe_call (ok__law_draw (K := K) T) (hr.mono (by decide)) (by rfl) T.m__law_draw T.F__law_draw.kp T.b__law_draw .nil passL (pa_cons (pv 0) (pa_cons pe_int pa_nil)))) (pa_cons (pe_op op_add pe_int (pe_call (ok__law_draw (K := K) T) (hr.mono (by decide)) (by rfl) T.m__law_draw T.F__law_draw.kp T.b__law_draw .nil passL (pa_cons (pv 0) (pa_cons pe_int pa_nil)))) pa_nil))) (pa_cons (pe_lst (pa_cons pe_int (pa_cons pe_int (pa_cons pe_int pa_nil)))) pa_nil)) (by rfl))
      (pss_cons (ps_asg (pe_tup (pa_cons (pe_lst pa_nil) (pa_cons pe_int (pa_cons pe_int (pa_cons (pe_op op_rep (pe_lst (pa_cons pe_non pa_nil)) (pe_callB (call_lenK (K := K)) (by rfl) T.z_len (by decide +kernel) (pa_cons (pv 1) pa_nil))) pa_nil))))) (pg_tup rfl (pgs_cons (pg_name (i := 6) sc__law_right.nd rfl (Or.inl rfl)) (pgs_cons (pg_name (i := 7) sc__law_right.nd rfl (Or.inl rfl)) (pgs_cons (pg_name (i := 8) sc__law_right.nd rfl (Or.inl rfl)) (pgs_cons (pg_name (i := 9) sc__law_right.nd rfl (Or.inl rfl)) pgs_nil))))))
      (pss_cons (ps_for (passes_of rfl) rfl (pi_range1 (by rfl) T.z_range (pa_cons pe_int pa_nil)) (pg_name (i := 10) sc__law_right.nd rfl (Or.inl rfl))
      (pss_cons (ps_setLc (i := 11) (own := [("_law_at", 18), ("_law_one", 20)]) (g := (gTup K 2 (gCons (gName 18) (gCons (gName 20) gNil)))) rfl sc__law_right.nd rfl rfl (sw_true rfl rfl rfl (by decide +kernel)) (pi_enum (by rfl) T.z_enumerate (pa_cons (pv 6) pa_nil)) (blkOk_by (N := ["_law_pot_here", "_law_rows_here", "_law_due", "_law_last", "_law_queues", "_law_memory", "_law_flight", "_law_upcoming", "_law_number", "_law_got", "_law_turn", "_law_waiting", "_law_way", "_law_can", "_law_spot", "_law_oldest", "_law_is_done", "_law_told", "_law_at", "_law_early", "_law_one"]) (sc := defScope s__law_right) (by decide +kernel)) (fun _ _ _ _ _ => by exact (pg_tup rfl (pgs_cons (pg_name (i := 18) sc__law_right.nd rfl (Or.inl rfl)) (pgs_cons (pg_name (i := 20) sc__law_right.nd rfl (Or.inl rfl)) pgs_nil)))) (fun _ _ _ _ _ => (pts_one (pt_not (pt_val (pe_ix (ixTK (K := K)) (pv 20) pe_int (fun _ _ => rfl)))))) (fun _ _ _ _ _ => (pv 18)))
      (pss_cons (ps_set (i := 12) sc__law_right.nd rfl (Or.inl rfl) (pe_cut (pe_ifExp (pt_cmpR op_lt (pv 10) pe_int (nomark _)) (pe_call (ok__law_draw (K := K) T) (hr.mono (by decide)) (by rfl) T.m__law_draw T.F__law_draw.kp T.b__law_draw .nil passL (pa_cons (pv 0) (pa_cons pe_int pa_nil))) pe_int)))
      (pss_cons (ps_set (i := 13) sc__law_right.nd rfl (Or.inl rfl) (pe_cut (pe_and (pe_cmpR op_lt (pv 7) (pe_callB (call_lenK (K := K)) (by rfl) T.z_len (by decide +kernel) (pa_cons (pv 1) pa_nil)) (nomark _)) (pe_one (pe_cut (pe_ifExp (pt_val (pe_ix ix_tup (pe_ix ix_list (pv 1) (pv 7) (fun _ _ => rfl)) pe_int (fun _ _ => rfl))) (pe_prop (pv 4) T.c_Queues T.p_Queues_can_store (ok_Queues_can_store (K := K) T) (hr.mono (by decide)) T.b_Queues_can_store .nil passL rfl) (pe_prop (pv 4) T.c_Queues T.p_Queues_can_load (ok_Queues_can_load (K := K) T) (hr.mono (by decide)) T.b_Queues_can_load .nil passL rfl)))))))
      (pss_one (ps_if (pt_cut (PW.pt (pw_and (pt_val (pv 13)) (pw_and1 (PW.pt (pw_or (pt_cmpR op_lt (pv 12) pe_int (nomark _)) (pw_or1 (pt_cmpR (op_eqC (ctL (ctE (kTup (kC (kI (K := K)) (kC (kI (K := K)) (kC (kB (K := K)) (kC1 (kO (kI (K := K)))))))))) hr.units) (pv 6) (pe_lst pa_nil) (nomark _))))))))) (Evl.pss_cut (ps_if (pt_val (pe_ix ix_tup (pe_ix ix_list (pv 1) (pv 7) (fun _ _ => rfl)) pe_int (fun _ _ => rfl))) (pss_one (ps_expr (pe_meth (pv 4) T.c_Queues T.M_Queues_store_entered (ok_Queues_store_entered (K := K) T) (hr.mono (by decide)) T.b_Queues_store_entered .nil passL (pa_cons (pv 8) pa_nil)))) (pss_one (ps_expr (pe_meth (pv 4) T.c_Queues T.M_Queues_load_entered (ok_Queues_load_entered (K := K) T) (hr.mono (by decide)) T.b_Queues_load_entered .nil passL (pa_cons (pv 8) pa_nil)))))
      (pss_cons (ps_expr (pe_bm PySem.F.plainAttrs_list PySem.F.slot_list_append PySem.F.type_list_append mt_append (pv 6) (pa_cons (pe_tup (pa_cons (pv 7) (pa_cons (pv 8) (pa_cons pe_bl (pa_cons pe_non pa_nil))))) pa_nil)))
      (pss_one (ps_par (i := 7) (j := 8) rfl sc__law_right.nd rfl rfl (by decide) rfl rfl (pa_cons (pe_op op_add (pv 7) pe_int) (pa_cons (pe_op op_add (pv 8) pe_int) pa_nil)) (by rfl))))) (pss_one (ps_if (pt_cut (PW.pt (pw_and (pt_cmpR (op_neC (ctL (ctE (kTup (kC (kI (K := K)) (kC (kI (K := K)) (kC (kB (K := K)) (kC1 (kO (kI (K := K)))))))))) hr.units) (pv 6) (pe_lst pa_nil) (nomark _)) (pw_and (pt_val (pe_ix ix_tup (pe_ix ix_list (pv 6) pe_int (fun _ _ => rfl)) pe_int (fun _ _ => rfl))) (pw_and1 (PW.pt (pw_or (pt_cmpR op_eq (pv 12) pe_int (nomark _)) (pw_or1 (pt_cmpR (op_eqC (ctL (ctE (kI (K := K)))) hr.units) (pv 11) (pe_lst pa_nil) (nomark _)))))))))) (pss_cons (ps_asg (pe_ix ix_list (pv 6) pe_int (fun _ _ => rfl)) (pg_tup rfl (pgs_cons (pg_name (i := 14) sc__law_right.nd rfl (Or.inl rfl)) (pgs_cons (pg_name (i := 15) sc__law_right.nd rfl (Or.inl rfl)) (pgs_cons (pg_name (i := 16) sc__law_right.nd rfl (Or.inl rfl)) (pgs_cons (pg_name (i := 17) sc__law_right.nd rfl (Or.inl rfl)) pgs_nil))))))
      (Evl.pss_cut (ps_if (pt_val (pe_ix ix_tup (pe_ix ix_list (pv 1) (pv 14) (fun _ _ => rfl)) pe_int (fun _ _ => rfl))) (pss_one (ps_asg (pe_ix ix_tup (pe_ix ix_list (pv 1) (pv 14) (fun _ _ => rfl)) pe_int (fun _ _ => rfl)) (pg_sub (pv 5) (pe_ix ix_tup (pe_ix ix_list (pv 1) (pv 14) (fun _ _ => rfl)) pe_int (fun _ _ => rfl)) set_list))) pss_nil)
      (pss_cons (ps_asg (pv 17) (pg_sub (pv 9) (pv 14) set_list))
      (pss_cons (ps_expr (pe_meth (pv 4) T.c_Queues T.M_Queues_leave (ok_Queues_leave (K := K) T) (hr.mono (by decide)) T.b_Queues_leave .nil passL (pa_cons (pv 15) pa_nil)))
      (pss_one (ps_set (i := 6) sc__law_right.nd rfl (Or.inl rfl) (pe_slice sl_list (pv 6) (po_some pe_int) po_none))))))) (pss_one (ps_if (pt_cmpR (op_neC (ctL (ctE (kI (K := K)))) hr.units) (pv 11) (pe_lst pa_nil) (nomark _)) (pss_cons (ps_set (i := 18) sc__law_right.nd rfl (Or.inl rfl) (pe_cut (pe_ifExp (pt_cmpR op_lt (pv 10) pe_int (nomark _)) (pe_ix ix_list (pv 11) (pe_op op_mod (pe_call (ok__law_draw (K := K) T) (hr.mono (by decide)) (by rfl) T.m__law_draw T.F__law_draw.kp T.b__law_draw .nil passL (pa_cons (pv 0) (pa_cons pe_int pa_nil))) (pe_callB (call_lenK (K := K)) (by rfl) T.z_len (by decide +kernel) (pa_cons (pv 11) pa_nil))) (fun _ _ => rfl)) (pe_ix ix_list (pv 11) pe_int (fun _ _ => rfl)))))
      (pss_cons (ps_set (i := 19) sc__law_right.nd rfl (Or.inr rfl) (pe_call (ok__law_done (K := K) T) (hr.mono (by decide)) (by rfl) T.m__law_done T.F__law_done.kp T.b__law_done .nil passL (pa_cons (pv 4) (pa_cons (pv 5) (pa_cons (pv 1) (pa_cons (pv 6) (pa_cons (pv 18) pa_nil)))))))
      (pss_cons (ps_if (pt_cmpR (op_eqC (ctE (kO (kI (K := K)))) hr.units) (pv 19) (pe_un un_neg pe_int) (nomark _)) (pss_one (ps_ret pe_bl)) pss_nil)
      (pss_one (ps_if (pt_cmpR op_noNR (pv 19) pe_non (nomark _)) (pss_cons (ps_set (i := 7) sc__law_right.nd rfl (Or.inl rfl) (pe_ix ix_list (pe_lc (own := [("_law_one", 20)]) (g := gName 20) rfl sc__law_right.nd (pi_list (pv 6)) (blkOk_by (N := ["_law_pot_here", "_law_rows_here", "_law_due", "_law_last", "_law_queues", "_law_memory", "_law_flight", "_law_upcoming", "_law_number", "_law_got", "_law_turn", "_law_waiting", "_law_way", "_law_can", "_law_spot", "_law_oldest", "_law_is_done", "_law_told", "_law_at", "_law_early", "_law_one"]) (sc := defScope s__law_right) (by decide +kernel)) (fun _ _ _ _ _ => (pg_name (i := 20) sc__law_right.nd rfl (Or.inl rfl))) (fun _ _ _ _ _ => (pts_one (pt_cmpR (op_eqC (ctE (kO (kI (K := K)))) hr.units) (pe_ix (ixTK (K := K)) (pv 20) pe_int (fun _ _ => rfl)) (pv 19) (nomark _)))) (fun _ _ _ _ _ => (pe_ix (ixTK (K := K)) (pv 20) pe_int (fun _ _ => rfl)))) pe_int (fun _ _ => rfl)))
      (pss_cons (ps_expr (pe_meth (pv 4) T.c_Queues T.M_Queues_dropped (ok_Queues_dropped (K := K) T) (hr.mono (by decide)) T.b_Queues_dropped .nil passL (pa_cons (pv 19) pa_nil)))
      (pss_one (ps_setLc (i := 6) (own := [("_law_one", 20)]) (g := gName 20) rfl sc__law_right.nd rfl rfl (sw_true rfl rfl rfl (by decide +kernel)) (pi_list (pv 6)) (blkOk_by (N := ["_law_pot_here", "_law_rows_here", "_law_due", "_law_last", "_law_queues", "_law_memory", "_law_flight", "_law_upcoming", "_law_number", "_law_got", "_law_turn", "_law_waiting", "_law_way", "_law_can", "_law_spot", "_law_oldest", "_law_is_done", "_law_told", "_law_at", "_law_early", "_law_one"]) (sc := defScope s__law_right) (by decide +kernel)) (fun _ _ _ _ _ => (pg_name (i := 20) sc__law_right.nd rfl (Or.inl rfl))) (fun _ _ _ _ _ => (pts_one (pt_cmpR op_lt (pe_ix (ixTK (K := K)) (pv 20) pe_int (fun _ _ => rfl)) (pv 19) (nomark _)))) (fun _ _ _ _ _ => (pv 20)))))) pss_nil))))) pss_nil))))))))))
      (pss_one (ps_ret (pe_and (pe_cmpR (op_eqC (ctL (ctE (kO (kI (K := K))))) hr.units) (pv 9) (pv 2) (nomark _)) (pe_and (pe_cmpR (op_eqC (ctL (ctE (kI (K := K)))) hr.units) (pv 5) (pv 3) (nomark _)) (pe_and (pe_cmpR (op_eqC (ctL (ctE (kTup (kC (kI (K := K)) (kC (kI (K := K)) (kC (kB (K := K)) (kC1 (kO (kI (K := K)))))))))) hr.units) (pv 6) (pe_lst pa_nil) (nomark _)) (pe_one (pe_cmpR op_eq (pv 7) (pe_callB (call_lenK (K := K)) (by rfl) T.z_len (by decide +kernel) (pa_cons (pv 1) pa_nil)) (nomark _))))))))))))), ?_⟩
    try simp only [cxOf_K]
    refine w_in (σ := [some _, none, none, none, none, none, none, none, none, none, none, none, none, none, none, none, none, none, none, none, none]) rfl ?_
    refine Holds.go hH ?_
    unfold m__law_right at hm
    repeat (walk_at "gst")
    repeat (walk_at "fold1")
    refine' c_forR (M := QueuesS × (List Int) × (List (Int × Int × Bool × (Option Int))) × Int × Int × (List (Option Int))) (B := Addr × Addr × Addr × Addr × Option V × Option V × Option V × Option V × Option V × Option V × Option V × Option V × Option V × Option V) hm (fun m b => [none, none, none, none, some (some (.ref b.1)), some (some (.ref b.2.1)), some (some (.ref b.2.2.1)), some (some (.int m.2.2.2.1)), some (some (.int m.2.2.2.2.1)), some (some (.ref b.2.2.2.1)), some (b.2.2.2.2.1), some (b.2.2.2.2.2.1), some (b.2.2.2.2.2.2.1), some (b.2.2.2.2.2.2.2.1), some (b.2.2.2.2.2.2.2.2.1), some (b.2.2.2.2.2.2.2.2.2.1), some (b.2.2.2.2.2.2.2.2.2.2.1), some (b.2.2.2.2.2.2.2.2.2.2.2.1), some (b.2.2.2.2.2.2.2.2.2.2.2.2.1), some (b.2.2.2.2.2.2.2.2.2.2.2.2.2)]) (fun m b => [A_Queues K a b.1 m.1, ls (kI (K := K)) b.2.1 m.2.1, ls (kTup (kC (kI (K := K)) (kC (kI (K := K)) (kC (kB (K := K)) (kC1 (kO (kI (K := K)))))))) b.2.2.1 m.2.2.1, ls (kO (kI (K := K))) b.2.2.2.1 m.2.2.2.2.2]) (_, _, _, _, _, _, _, _, _, _, _, _, _, _) ?zh9 ?zs9 ?zq9 ?zd9
    case zh9 =>
      (try dsimp only); rfl
    case zs9 =>
      walk_at "subR"
    case zq9 =>
      intro hbk x m b nxt hm
      walk_at "norm"
      repeat (walk_at "gst")
      walk_at "if"
      · repeat (walk_at "gst")
        refine' c_cut (M := QueuesS) (B := Addr) (B0 := Addr × QueuesS) hm (fun b => [none, none, none, none, some (some (.ref b.1))]) (fun b => [A_Queues K a b.1 b.2]) (fun m b => [none, none, none, none, some (some (.ref b))]) (fun m b => [A_Queues K a b m]) (_, _) ?zh7 ?zs7 ?zq7 ?zd7
        case zh7 =>
          (try dsimp only); rfl
        case zs7 =>
          walk_at "subR"
        case zq7 =>
          intro jp hm
          walk_at "norm"
          repeat (walk_at "go")
        case zd7 =>
          intro m b hm
          walk_at "norm"
          repeat (walk_at "go")
      · repeat (walk_at "gst")
        walk_at "if"
        · repeat (walk_at "gst")
          refine' c_cut (M := (List Int)) (B := Addr) (B0 := Addr × (List Int)) hm (fun b => [none, none, none, none, none, some (some (.ref b.1))]) (fun b => [ls (kI (K := K)) b.1 b.2]) (fun m b => [none, none, none, none, none, some (some (.ref b))]) (fun m b => [ls (kI (K := K)) b m]) (_, _) ?zh8 ?zs8 ?zq8 ?zd8
          case zh8 =>
            (try dsimp only); rfl
          case zs8 =>
            walk_at "subR"
          case zq8 =>
            intro jp hm
            walk_at "norm"
            repeat (walk_at "go")
          case zd8 =>
            intro m b hm
            walk_at "norm"
            repeat (walk_at "go")
        · repeat (walk_at "go")
    case zd9 =>
      intro m b hm
      walk_at "norm"
      repeat (walk_at "go")
theorem ok_law (T : Txt K mg a) : FnOk P w K mg base (L2.CX P w) 8 a.f_law a.d_law ["_law_script"] (sp_law K) := by
  refine T.F_law.okX sc_law (fun vs H Q E h => ?_) (fun cdv A outer s H vs Q E hr h => ?_)
  · obtain ⟨_, _, rfl, _⟩ := h
    rfl
  · obtain ⟨a_script, script, rfl, hs, hl, q⟩ := h
    have hm := law_ok script hl
    have hH := holds_sq hs
    refine ⟨_, (pss_one (ps_ret (pe_call (ok__law_right (K := K) T) (hr.mono (by decide)) (by rfl) T.m__law_right T.F__law_right.kp T.b__law_right .nil passL (pa_cons (pe_call (ok__law_pot (K := K) T) (hr.mono (by decide)) (by rfl) T.m__law_pot T.F__law_pot.kp T.b__law_pot .nil passL (pa_cons (pv 0) (pa_cons pe_int pa_nil))) pa_nil)))), ?_⟩
    try simp only [cxOf_K]
    refine w_in (σ := [some _]) rfl ?_
    refine Holds.go hH ?_
    unfold m_law at hm
    repeat (walk_at "go")
end
theorem all_mk {l : PySem.W.OpenLaw} {w : World} {K : PySem.W.Frag} {h : Heap} {mg : Str → Option Value} {fa : Addr} (X : K.In h) (G : h.Ns mainGlobals mg) (hfa : mg "law" = some (.ref fa))
    {f_CoreError___init__ : Addr} {d_CoreError___init__ : FuncData} {f_is_integer : Addr} {d_is_integer : FuncData} {f_is_count : Addr} {d_is_count : FuncData} {f_want_many : Addr} {d_want_many : FuncData} {f_is_word : Addr} {d_is_word : FuncData} {f_is_place : Addr} {d_is_place : FuncData} {f_want_word : Addr} {d_want_word : FuncData} {f_want_place : Addr} {d_want_place : FuncData} {f_Queues___init__ : Addr} {d_Queues___init__ : FuncData} {f_Queues_all_numbers : Addr} {d_Queues_all_numbers : FuncData} {f_Queues_source_of : Addr} {d_Queues_source_of : FuncData} {f_Queues_told_known : Addr} {d_Queues_told_known : FuncData} {f_Queues_note_read : Addr} {d_Queues_note_read : FuncData} {f_Queues_drop_from : Addr} {d_Queues_drop_from : FuncData} {f_Queues_leave_oldest : Addr} {d_Queues_leave_oldest : FuncData} {f_Queues_want_new : Addr} {d_Queues_want_new : FuncData} {f_Queues_row_of : Addr} {d_Queues_row_of : FuncData} {f_Queues_is_source : Addr} {d_Queues_is_source : FuncData} {f_Queues_can_load : Addr} {d_Queues_can_load : FuncData} {p_Queues_can_load : Addr} {f_Queues_can_store : Addr} {d_Queues_can_store : FuncData} {p_Queues_can_store : Addr} {f_Queues_load_entered : Addr} {d_Queues_load_entered : FuncData} {f_Queues_store_entered : Addr} {d_Queues_store_entered : FuncData} {f_Queues_known : Addr} {d_Queues_known : FuncData} {f_Queues_source : Addr} {d_Queues_source : FuncData} {f_Queues_read : Addr} {d_Queues_read : FuncData} {f_Queues_leave : Addr} {d_Queues_leave : FuncData} {f_Queues_dropped : Addr} {d_Queues_dropped : FuncData} {f_Queues_loads : Addr} {d_Queues_loads : FuncData} {f_Queues_stores : Addr} {d_Queues_stores : FuncData} {f_Queues___eq__ : Addr} {d_Queues___eq__ : FuncData} {f__law_pot : Addr} {d__law_pot : FuncData} {f__law_draw : Addr} {d__law_draw : FuncData} {f__law_rows : Addr} {d__law_rows : FuncData} {f__law_plain : Addr} {d__law_plain : FuncData} {f__law_done : Addr} {d__law_done : FuncData} {f__law_read_from : Addr} {d__law_read_from : FuncData} {f__law_right : Addr} {d__law_right : FuncData} {f_law : Addr} {d_law : FuncData} {c_CoreError : Addr} {c_MissingError : Addr} {c_StateError : Addr} {c_InvalidWord : Addr} {c_InvalidPlace : Addr} {c_InvalidMany : Addr} {c_InvalidNumber : Addr} {c_InvalidSource : Addr} {c_UnknownNumber : Addr} {c_HasRead : Addr} {c_IsKnown : Addr} {c_NoRoom : Addr} {c_NotOldest : Addr} {c_Queues : Addr} {t_MOST_WORD : Tok} {t_MOST_PLACE : Tok} {t_MOST_ROOMS : Tok}
    (a_CoreError : PySem.W.nsIn K mainGlobals "CoreError" = some (some (.ref c_CoreError)))
    (xc_CoreError : ∃ nm q N bs sn sub ab col dd k0 k1 k2 k3 k5, K.lookup c_CoreError = some (excClassObj nm q c_CoreError N bs [.type "ValueError", .type "Exception", .type "BaseException", .type "object"] true sn sub ab col dd k0 k1 k2 k3 k5 "ValueError.__new__"))
    (xs_CoreError : PySem.W.findIn K (.ref c_CoreError) "__setattr__" = some (some (.builtin "object.__setattr__")))
    (xb_CoreError : PySem.W.subIn K (.ref c_CoreError) (.type "BaseException") = some true)
    (xy_CoreError : PySem.W.typeIn K (.ref c_CoreError) = some (.type "type"))
    (xk_CoreError : PySem.W.keepIn K (.ref c_CoreError) = true)
    (xi_CoreError : PySem.W.findIn K (.ref c_CoreError) "__init__" = some (some (.ref f_CoreError___init__)))
    (xn_CoreError_value : PySem.W.findIn K (.ref c_CoreError) "value" = some none)
    (a_MissingError : PySem.W.nsIn K mainGlobals "MissingError" = some (some (.ref c_MissingError)))
    (a_StateError : PySem.W.nsIn K mainGlobals "StateError" = some (some (.ref c_StateError)))
    (a_InvalidWord : PySem.W.nsIn K mainGlobals "InvalidWord" = some (some (.ref c_InvalidWord)))
    (xc_InvalidWord : ∃ nm q N bs sn sub ab col dd k0 k1 k2 k3 k5, K.lookup c_InvalidWord = some (excClassObj nm q c_InvalidWord N bs [.ref c_CoreError, .type "ValueError", .type "Exception", .type "BaseException", .type "object"] true sn sub ab col dd k0 k1 k2 k3 k5 "ValueError.__new__"))
    (xs_InvalidWord : PySem.W.findIn K (.ref c_InvalidWord) "__setattr__" = some (some (.builtin "object.__setattr__")))
    (xb_InvalidWord : PySem.W.subIn K (.ref c_InvalidWord) (.type "BaseException") = some true)
    (xy_InvalidWord : PySem.W.typeIn K (.ref c_InvalidWord) = some (.type "type"))
    (xk_InvalidWord : PySem.W.keepIn K (.ref c_InvalidWord) = true)
    (xi_InvalidWord : PySem.W.findIn K (.ref c_InvalidWord) "__init__" = some (some (.ref f_CoreError___init__)))
    (xn_InvalidWord_value : PySem.W.findIn K (.ref c_InvalidWord) "value" = some none)
    (a_InvalidPlace : PySem.W.nsIn K mainGlobals "InvalidPlace" = some (some (.ref c_InvalidPlace)))
    (xc_InvalidPlace : ∃ nm q N bs sn sub ab col dd k0 k1 k2 k3 k5, K.lookup c_InvalidPlace = some (excClassObj nm q c_InvalidPlace N bs [.ref c_CoreError, .type "ValueError", .type "Exception", .type "BaseException", .type "object"] true sn sub ab col dd k0 k1 k2 k3 k5 "ValueError.__new__"))
    (xs_InvalidPlace : PySem.W.findIn K (.ref c_InvalidPlace) "__setattr__" = some (some (.builtin "object.__setattr__")))
    (xb_InvalidPlace : PySem.W.subIn K (.ref c_InvalidPlace) (.type "BaseException") = some true)
    (xy_InvalidPlace : PySem.W.typeIn K (.ref c_InvalidPlace) = some (.type "type"))
    (xk_InvalidPlace : PySem.W.keepIn K (.ref c_InvalidPlace) = true)
    (xi_InvalidPlace : PySem.W.findIn K (.ref c_InvalidPlace) "__init__" = some (some (.ref f_CoreError___init__)))
    (xn_InvalidPlace_value : PySem.W.findIn K (.ref c_InvalidPlace) "value" = some none)
    (a_InvalidMany : PySem.W.nsIn K mainGlobals "InvalidMany" = some (some (.ref c_InvalidMany)))
    (xc_InvalidMany : ∃ nm q N bs sn sub ab col dd k0 k1 k2 k3 k5, K.lookup c_InvalidMany = some (excClassObj nm q c_InvalidMany N bs [.ref c_CoreError, .type "ValueError", .type "Exception", .type "BaseException", .type "object"] true sn sub ab col dd k0 k1 k2 k3 k5 "ValueError.__new__"))
    (xs_InvalidMany : PySem.W.findIn K (.ref c_InvalidMany) "__setattr__" = some (some (.builtin "object.__setattr__")))
    (xb_InvalidMany : PySem.W.subIn K (.ref c_InvalidMany) (.type "BaseException") = some true)
    (xy_InvalidMany : PySem.W.typeIn K (.ref c_InvalidMany) = some (.type "type"))
    (xk_InvalidMany : PySem.W.keepIn K (.ref c_InvalidMany) = true)
    (xi_InvalidMany : PySem.W.findIn K (.ref c_InvalidMany) "__init__" = some (some (.ref f_CoreError___init__)))
    (xn_InvalidMany_value : PySem.W.findIn K (.ref c_InvalidMany) "value" = some none)
    (a_InvalidNumber : PySem.W.nsIn K mainGlobals "InvalidNumber" = some (some (.ref c_InvalidNumber)))
    (xc_InvalidNumber : ∃ nm q N bs sn sub ab col dd k0 k1 k2 k3 k5, K.lookup c_InvalidNumber = some (excClassObj nm q c_InvalidNumber N bs [.ref c_CoreError, .type "ValueError", .type "Exception", .type "BaseException", .type "object"] true sn sub ab col dd k0 k1 k2 k3 k5 "ValueError.__new__"))
    (xs_InvalidNumber : PySem.W.findIn K (.ref c_InvalidNumber) "__setattr__" = some (some (.builtin "object.__setattr__")))
    (xb_InvalidNumber : PySem.W.subIn K (.ref c_InvalidNumber) (.type "BaseException") = some true)
    (xy_InvalidNumber : PySem.W.typeIn K (.ref c_InvalidNumber) = some (.type "type"))
    (xk_InvalidNumber : PySem.W.keepIn K (.ref c_InvalidNumber) = true)
    (xi_InvalidNumber : PySem.W.findIn K (.ref c_InvalidNumber) "__init__" = some (some (.ref f_CoreError___init__)))
    (xn_InvalidNumber_value : PySem.W.findIn K (.ref c_InvalidNumber) "value" = some none)
    (a_InvalidSource : PySem.W.nsIn K mainGlobals "InvalidSource" = some (some (.ref c_InvalidSource)))
    (xc_InvalidSource : ∃ nm q N bs sn sub ab col dd k0 k1 k2 k3 k5, K.lookup c_InvalidSource = some (excClassObj nm q c_InvalidSource N bs [.ref c_CoreError, .type "ValueError", .type "Exception", .type "BaseException", .type "object"] true sn sub ab col dd k0 k1 k2 k3 k5 "ValueError.__new__"))
    (xs_InvalidSource : PySem.W.findIn K (.ref c_InvalidSource) "__setattr__" = some (some (.builtin "object.__setattr__")))
    (xb_InvalidSource : PySem.W.subIn K (.ref c_InvalidSource) (.type "BaseException") = some true)
    (xy_InvalidSource : PySem.W.typeIn K (.ref c_InvalidSource) = some (.type "type"))
    (xk_InvalidSource : PySem.W.keepIn K (.ref c_InvalidSource) = true)
    (xi_InvalidSource : PySem.W.findIn K (.ref c_InvalidSource) "__init__" = some (some (.ref f_CoreError___init__)))
    (xn_InvalidSource_value : PySem.W.findIn K (.ref c_InvalidSource) "value" = some none)
    (a_UnknownNumber : PySem.W.nsIn K mainGlobals "UnknownNumber" = some (some (.ref c_UnknownNumber)))
    (a_HasRead : PySem.W.nsIn K mainGlobals "HasRead" = some (some (.ref c_HasRead)))
    (a_IsKnown : PySem.W.nsIn K mainGlobals "IsKnown" = some (some (.ref c_IsKnown)))
    (a_NoRoom : PySem.W.nsIn K mainGlobals "NoRoom" = some (some (.ref c_NoRoom)))
    (a_NotOldest : PySem.W.nsIn K mainGlobals "NotOldest" = some (some (.ref c_NotOldest)))
    (a_Queues : PySem.W.nsIn K mainGlobals "Queues" = some (some (.ref c_Queues)))
    (pg_Queues : PySem.W.plainGet K c_Queues Str.empty = true)
    (hd_Queues : PySem.W.hasDictIn K c_Queues = true)
    (po_Queues : PySem.W.plainOver K c_Queues = true)
    (sa_Queues : PySem.W.findIn K (.ref c_Queues) "__setattr__" = some (some (.builtin "object.__setattr__")))
    (n_Queues_own_load_rooms : PySem.W.findIn K (.ref c_Queues) "own_load_rooms" = some none)
    (n_Queues_own_store_rooms : PySem.W.findIn K (.ref c_Queues) "own_store_rooms" = some none)
    (n_Queues_own_loads : PySem.W.findIn K (.ref c_Queues) "own_loads" = some none)
    (n_Queues_own_stores : PySem.W.findIn K (.ref c_Queues) "own_stores" = some none)
    (ia_Queues : PySem.W.findIn K (.ref c_Queues) "__class__" = some (some (.builtin "object.__class__")))
    (ib_Queues : PySem.W.specialIn K (.builtin "object.__class__") "__get__" = some (some (.builtin "getset_descriptor.__get__")))
    (ic_Queues : PySem.W.takesIn K (.builtin "object.__class__") = some true)
    (id_Queues : PySem.W.mroIn K c_Queues (.type "object") = some true)
    (mk_Queues : PySem.W.makesIn K c_Queues = true)
    (mi_Queues : PySem.W.findIn K (.ref c_Queues) "__init__" = some (some (.ref f_Queues___init__)))
    (mf_Queues : PySem.W.isFn K (.ref f_Queues___init__) = true)
    (kc_Queues : PySem.W.keepIn K (.ref c_Queues) = true)
    (l_CoreError___init__ : ∃ oc od kV dc pm an cd ct sl, d_CoreError___init__ = PySem.W.fnOf "__init__" "CoreError.__init__" (defArgs s_CoreError___init__) (defBody s_CoreError___init__) (defScope s_CoreError___init__) .none kV dc pm an cd ct ∧ K.lookup f_CoreError___init__ = some ⟨oc, od, .func d_CoreError___init__, sl⟩ ∧ PySem.W.codeIn K cd "CoreError.__init__" = true)
    (kp_CoreError___init__ : PySem.W.keepIn K (.ref f_CoreError___init__) = true)
    (xt_CoreError___init__ : PySem.W.typeIn K (.ref f_CoreError___init__) = some (.type "function"))
    (a_is_integer : PySem.W.nsIn K mainGlobals "is_integer" = some (some (.ref f_is_integer)))
    (l_is_integer : ∃ oc od kV dc pm an cd ct sl, d_is_integer = PySem.W.fnOf "is_integer" "is_integer" (defArgs s_is_integer) (defBody s_is_integer) (defScope s_is_integer) .none kV dc pm an cd ct ∧ K.lookup f_is_integer = some ⟨oc, od, .func d_is_integer, sl⟩ ∧ PySem.W.codeIn K cd "is_integer" = true)
    (kp_is_integer : PySem.W.keepIn K (.ref f_is_integer) = true)
    (a_is_count : PySem.W.nsIn K mainGlobals "is_count" = some (some (.ref f_is_count)))
    (l_is_count : ∃ oc od kV dc pm an cd ct sl, d_is_count = PySem.W.fnOf "is_count" "is_count" (defArgs s_is_count) (defBody s_is_count) (defScope s_is_count) .none kV dc pm an cd ct ∧ K.lookup f_is_count = some ⟨oc, od, .func d_is_count, sl⟩ ∧ PySem.W.codeIn K cd "is_count" = true)
    (kp_is_count : PySem.W.keepIn K (.ref f_is_count) = true)
    (a_want_many : PySem.W.nsIn K mainGlobals "want_many" = some (some (.ref f_want_many)))
    (l_want_many : ∃ oc od kV dc pm an cd ct sl, d_want_many = PySem.W.fnOf "want_many" "want_many" (defArgs s_want_many) (defBody s_want_many) (defScope s_want_many) .none kV dc pm an cd ct ∧ K.lookup f_want_many = some ⟨oc, od, .func d_want_many, sl⟩ ∧ PySem.W.codeIn K cd "want_many" = true)
    (kp_want_many : PySem.W.keepIn K (.ref f_want_many) = true)
    (a_is_word : PySem.W.nsIn K mainGlobals "is_word" = some (some (.ref f_is_word)))
    (l_is_word : ∃ oc od kV dc pm an cd ct sl, d_is_word = PySem.W.fnOf "is_word" "is_word" (defArgs s_is_word) (defBody s_is_word) (defScope s_is_word) .none kV dc pm an cd ct ∧ K.lookup f_is_word = some ⟨oc, od, .func d_is_word, sl⟩ ∧ PySem.W.codeIn K cd "is_word" = true)
    (kp_is_word : PySem.W.keepIn K (.ref f_is_word) = true)
    (a_is_place : PySem.W.nsIn K mainGlobals "is_place" = some (some (.ref f_is_place)))
    (l_is_place : ∃ oc od kV dc pm an cd ct sl, d_is_place = PySem.W.fnOf "is_place" "is_place" (defArgs s_is_place) (defBody s_is_place) (defScope s_is_place) .none kV dc pm an cd ct ∧ K.lookup f_is_place = some ⟨oc, od, .func d_is_place, sl⟩ ∧ PySem.W.codeIn K cd "is_place" = true)
    (kp_is_place : PySem.W.keepIn K (.ref f_is_place) = true)
    (a_want_word : PySem.W.nsIn K mainGlobals "want_word" = some (some (.ref f_want_word)))
    (l_want_word : ∃ oc od kV dc pm an cd ct sl, d_want_word = PySem.W.fnOf "want_word" "want_word" (defArgs s_want_word) (defBody s_want_word) (defScope s_want_word) .none kV dc pm an cd ct ∧ K.lookup f_want_word = some ⟨oc, od, .func d_want_word, sl⟩ ∧ PySem.W.codeIn K cd "want_word" = true)
    (kp_want_word : PySem.W.keepIn K (.ref f_want_word) = true)
    (a_want_place : PySem.W.nsIn K mainGlobals "want_place" = some (some (.ref f_want_place)))
    (l_want_place : ∃ oc od kV dc pm an cd ct sl, d_want_place = PySem.W.fnOf "want_place" "want_place" (defArgs s_want_place) (defBody s_want_place) (defScope s_want_place) .none kV dc pm an cd ct ∧ K.lookup f_want_place = some ⟨oc, od, .func d_want_place, sl⟩ ∧ PySem.W.codeIn K cd "want_place" = true)
    (kp_want_place : PySem.W.keepIn K (.ref f_want_place) = true)
    (l_Queues___init__ : ∃ oc od kV dc pm an cd ct sl, d_Queues___init__ = PySem.W.fnOf "__init__" "Queues.__init__" (defArgs s_Queues___init__) (defBody s_Queues___init__) (defScope s_Queues___init__) .none kV dc pm an cd ct ∧ K.lookup f_Queues___init__ = some ⟨oc, od, .func d_Queues___init__, sl⟩ ∧ PySem.W.codeIn K cd "Queues.__init__" = true)
    (kp_Queues___init__ : PySem.W.keepIn K (.ref f_Queues___init__) = true)
    (l_Queues_all_numbers : ∃ oc od kV dc pm an cd ct sl, d_Queues_all_numbers = PySem.W.fnOf "all_numbers" "Queues.all_numbers" (defArgs s_Queues_all_numbers) (defBody s_Queues_all_numbers) (defScope s_Queues_all_numbers) .none kV dc pm an cd ct ∧ K.lookup f_Queues_all_numbers = some ⟨oc, od, .func d_Queues_all_numbers, sl⟩ ∧ PySem.W.codeIn K cd "Queues.all_numbers" = true)
    (kp_Queues_all_numbers : PySem.W.keepIn K (.ref f_Queues_all_numbers) = true)
    (ma_Queues_all_numbers : PySem.W.findIn K (.ref c_Queues) "all_numbers" = some (some (.ref f_Queues_all_numbers)))
    (mb_Queues_all_numbers : PySem.W.isFn K (.ref f_Queues_all_numbers) = true)
    (l_Queues_source_of : ∃ oc od kV dc pm an cd ct sl, d_Queues_source_of = PySem.W.fnOf "source_of" "Queues.source_of" (defArgs s_Queues_source_of) (defBody s_Queues_source_of) (defScope s_Queues_source_of) .none kV dc pm an cd ct ∧ K.lookup f_Queues_source_of = some ⟨oc, od, .func d_Queues_source_of, sl⟩ ∧ PySem.W.codeIn K cd "Queues.source_of" = true)
    (kp_Queues_source_of : PySem.W.keepIn K (.ref f_Queues_source_of) = true)
    (ma_Queues_source_of : PySem.W.findIn K (.ref c_Queues) "source_of" = some (some (.ref f_Queues_source_of)))
    (mb_Queues_source_of : PySem.W.isFn K (.ref f_Queues_source_of) = true)
    (l_Queues_told_known : ∃ oc od kV dc pm an cd ct sl, d_Queues_told_known = PySem.W.fnOf "told_known" "Queues.told_known" (defArgs s_Queues_told_known) (defBody s_Queues_told_known) (defScope s_Queues_told_known) .none kV dc pm an cd ct ∧ K.lookup f_Queues_told_known = some ⟨oc, od, .func d_Queues_told_known, sl⟩ ∧ PySem.W.codeIn K cd "Queues.told_known" = true)
    (kp_Queues_told_known : PySem.W.keepIn K (.ref f_Queues_told_known) = true)
    (ma_Queues_told_known : PySem.W.findIn K (.ref c_Queues) "told_known" = some (some (.ref f_Queues_told_known)))
    (mb_Queues_told_known : PySem.W.isFn K (.ref f_Queues_told_known) = true)
    (l_Queues_note_read : ∃ oc od kV dc pm an cd ct sl, d_Queues_note_read = PySem.W.fnOf "note_read" "Queues.note_read" (defArgs s_Queues_note_read) (defBody s_Queues_note_read) (defScope s_Queues_note_read) .none kV dc pm an cd ct ∧ K.lookup f_Queues_note_read = some ⟨oc, od, .func d_Queues_note_read, sl⟩ ∧ PySem.W.codeIn K cd "Queues.note_read" = true)
    (kp_Queues_note_read : PySem.W.keepIn K (.ref f_Queues_note_read) = true)
    (ma_Queues_note_read : PySem.W.findIn K (.ref c_Queues) "note_read" = some (some (.ref f_Queues_note_read)))
    (mb_Queues_note_read : PySem.W.isFn K (.ref f_Queues_note_read) = true)
    (l_Queues_drop_from : ∃ oc od kV dc pm an cd ct sl, d_Queues_drop_from = PySem.W.fnOf "drop_from" "Queues.drop_from" (defArgs s_Queues_drop_from) (defBody s_Queues_drop_from) (defScope s_Queues_drop_from) .none kV dc pm an cd ct ∧ K.lookup f_Queues_drop_from = some ⟨oc, od, .func d_Queues_drop_from, sl⟩ ∧ PySem.W.codeIn K cd "Queues.drop_from" = true)
    (kp_Queues_drop_from : PySem.W.keepIn K (.ref f_Queues_drop_from) = true)
    (ma_Queues_drop_from : PySem.W.findIn K (.ref c_Queues) "drop_from" = some (some (.ref f_Queues_drop_from)))
    (mb_Queues_drop_from : PySem.W.isFn K (.ref f_Queues_drop_from) = true)
    (l_Queues_leave_oldest : ∃ oc od kV dc pm an cd ct sl, d_Queues_leave_oldest = PySem.W.fnOf "leave_oldest" "Queues.leave_oldest" (defArgs s_Queues_leave_oldest) (defBody s_Queues_leave_oldest) (defScope s_Queues_leave_oldest) .none kV dc pm an cd ct ∧ K.lookup f_Queues_leave_oldest = some ⟨oc, od, .func d_Queues_leave_oldest, sl⟩ ∧ PySem.W.codeIn K cd "Queues.leave_oldest" = true)
    (kp_Queues_leave_oldest : PySem.W.keepIn K (.ref f_Queues_leave_oldest) = true)
    (ma_Queues_leave_oldest : PySem.W.findIn K (.ref c_Queues) "leave_oldest" = some (some (.ref f_Queues_leave_oldest)))
    (mb_Queues_leave_oldest : PySem.W.isFn K (.ref f_Queues_leave_oldest) = true)
    (l_Queues_want_new : ∃ oc od kV dc pm an cd ct sl, d_Queues_want_new = PySem.W.fnOf "want_new" "Queues.want_new" (defArgs s_Queues_want_new) (defBody s_Queues_want_new) (defScope s_Queues_want_new) .none kV dc pm an cd ct ∧ K.lookup f_Queues_want_new = some ⟨oc, od, .func d_Queues_want_new, sl⟩ ∧ PySem.W.codeIn K cd "Queues.want_new" = true)
    (kp_Queues_want_new : PySem.W.keepIn K (.ref f_Queues_want_new) = true)
    (ma_Queues_want_new : PySem.W.findIn K (.ref c_Queues) "want_new" = some (some (.ref f_Queues_want_new)))
    (mb_Queues_want_new : PySem.W.isFn K (.ref f_Queues_want_new) = true)
    (l_Queues_row_of : ∃ oc od kV dc pm an cd ct sl, d_Queues_row_of = PySem.W.fnOf "row_of" "Queues.row_of" (defArgs s_Queues_row_of) (defBody s_Queues_row_of) (defScope s_Queues_row_of) .none kV dc pm an cd ct ∧ K.lookup f_Queues_row_of = some ⟨oc, od, .func d_Queues_row_of, sl⟩ ∧ PySem.W.codeIn K cd "Queues.row_of" = true)
    (kp_Queues_row_of : PySem.W.keepIn K (.ref f_Queues_row_of) = true)
    (ma_Queues_row_of : PySem.W.findIn K (.ref c_Queues) "row_of" = some (some (.ref f_Queues_row_of)))
    (mb_Queues_row_of : PySem.W.isFn K (.ref f_Queues_row_of) = true)
    (l_Queues_is_source : ∃ oc od kV dc pm an cd ct sl, d_Queues_is_source = PySem.W.fnOf "is_source" "Queues.is_source" (defArgs s_Queues_is_source) (defBody s_Queues_is_source) (defScope s_Queues_is_source) .none kV dc pm an cd ct ∧ K.lookup f_Queues_is_source = some ⟨oc, od, .func d_Queues_is_source, sl⟩ ∧ PySem.W.codeIn K cd "Queues.is_source" = true)
    (kp_Queues_is_source : PySem.W.keepIn K (.ref f_Queues_is_source) = true)
    (ma_Queues_is_source : PySem.W.findIn K (.ref c_Queues) "is_source" = some (some (.ref f_Queues_is_source)))
    (mb_Queues_is_source : PySem.W.isFn K (.ref f_Queues_is_source) = true)
    (l_Queues_can_load : ∃ oc od kV dc pm an cd ct sl, d_Queues_can_load = PySem.W.fnOf "can_load" "Queues.can_load" (defArgs s_Queues_can_load) (defBody s_Queues_can_load) (defScope s_Queues_can_load) .none kV dc pm an cd ct ∧ K.lookup f_Queues_can_load = some ⟨oc, od, .func d_Queues_can_load, sl⟩ ∧ PySem.W.codeIn K cd "Queues.can_load" = true)
    (kp_Queues_can_load : PySem.W.keepIn K (.ref f_Queues_can_load) = true)
    (pa_Queues_can_load : PySem.W.findIn K (.ref c_Queues) "can_load" = some (some (.ref p_Queues_can_load)))
    (pb_Queues_can_load : PySem.W.specialIn K (.ref p_Queues_can_load) "__get__" = some (some (.builtin "property.__get__")))
    (pt_Queues_can_load : PySem.W.takesIn K (.ref p_Queues_can_load) = some true)
    (pr_Queues_can_load : ∃ rest, PySem.W.recIn K p_Queues_can_load "property" = some (.ref f_Queues_can_load :: rest))
    (l_Queues_can_store : ∃ oc od kV dc pm an cd ct sl, d_Queues_can_store = PySem.W.fnOf "can_store" "Queues.can_store" (defArgs s_Queues_can_store) (defBody s_Queues_can_store) (defScope s_Queues_can_store) .none kV dc pm an cd ct ∧ K.lookup f_Queues_can_store = some ⟨oc, od, .func d_Queues_can_store, sl⟩ ∧ PySem.W.codeIn K cd "Queues.can_store" = true)
    (kp_Queues_can_store : PySem.W.keepIn K (.ref f_Queues_can_store) = true)
    (pa_Queues_can_store : PySem.W.findIn K (.ref c_Queues) "can_store" = some (some (.ref p_Queues_can_store)))
    (pb_Queues_can_store : PySem.W.specialIn K (.ref p_Queues_can_store) "__get__" = some (some (.builtin "property.__get__")))
    (pt_Queues_can_store : PySem.W.takesIn K (.ref p_Queues_can_store) = some true)
    (pr_Queues_can_store : ∃ rest, PySem.W.recIn K p_Queues_can_store "property" = some (.ref f_Queues_can_store :: rest))
    (l_Queues_load_entered : ∃ oc od kV dc pm an cd ct sl, d_Queues_load_entered = PySem.W.fnOf "load_entered" "Queues.load_entered" (defArgs s_Queues_load_entered) (defBody s_Queues_load_entered) (defScope s_Queues_load_entered) .none kV dc pm an cd ct ∧ K.lookup f_Queues_load_entered = some ⟨oc, od, .func d_Queues_load_entered, sl⟩ ∧ PySem.W.codeIn K cd "Queues.load_entered" = true)
    (kp_Queues_load_entered : PySem.W.keepIn K (.ref f_Queues_load_entered) = true)
    (ma_Queues_load_entered : PySem.W.findIn K (.ref c_Queues) "load_entered" = some (some (.ref f_Queues_load_entered)))
    (mb_Queues_load_entered : PySem.W.isFn K (.ref f_Queues_load_entered) = true)
    (l_Queues_store_entered : ∃ oc od kV dc pm an cd ct sl, d_Queues_store_entered = PySem.W.fnOf "store_entered" "Queues.store_entered" (defArgs s_Queues_store_entered) (defBody s_Queues_store_entered) (defScope s_Queues_store_entered) .none kV dc pm an cd ct ∧ K.lookup f_Queues_store_entered = some ⟨oc, od, .func d_Queues_store_entered, sl⟩ ∧ PySem.W.codeIn K cd "Queues.store_entered" = true)
    (kp_Queues_store_entered : PySem.W.keepIn K (.ref f_Queues_store_entered) = true)
    (ma_Queues_store_entered : PySem.W.findIn K (.ref c_Queues) "store_entered" = some (some (.ref f_Queues_store_entered)))
    (mb_Queues_store_entered : PySem.W.isFn K (.ref f_Queues_store_entered) = true)
    (l_Queues_known : ∃ oc od kV dc pm an cd ct sl, d_Queues_known = PySem.W.fnOf "known" "Queues.known" (defArgs s_Queues_known) (defBody s_Queues_known) (defScope s_Queues_known) .none kV dc pm an cd ct ∧ K.lookup f_Queues_known = some ⟨oc, od, .func d_Queues_known, sl⟩ ∧ PySem.W.codeIn K cd "Queues.known" = true)
    (kp_Queues_known : PySem.W.keepIn K (.ref f_Queues_known) = true)
    (ma_Queues_known : PySem.W.findIn K (.ref c_Queues) "known" = some (some (.ref f_Queues_known)))
    (mb_Queues_known : PySem.W.isFn K (.ref f_Queues_known) = true)
    (l_Queues_source : ∃ oc od kV dc pm an cd ct sl, d_Queues_source = PySem.W.fnOf "source" "Queues.source" (defArgs s_Queues_source) (defBody s_Queues_source) (defScope s_Queues_source) .none kV dc pm an cd ct ∧ K.lookup f_Queues_source = some ⟨oc, od, .func d_Queues_source, sl⟩ ∧ PySem.W.codeIn K cd "Queues.source" = true)
    (kp_Queues_source : PySem.W.keepIn K (.ref f_Queues_source) = true)
    (ma_Queues_source : PySem.W.findIn K (.ref c_Queues) "source" = some (some (.ref f_Queues_source)))
    (mb_Queues_source : PySem.W.isFn K (.ref f_Queues_source) = true)
    (l_Queues_read : ∃ oc od kV dc pm an cd ct sl, d_Queues_read = PySem.W.fnOf "read" "Queues.read" (defArgs s_Queues_read) (defBody s_Queues_read) (defScope s_Queues_read) .none kV dc pm an cd ct ∧ K.lookup f_Queues_read = some ⟨oc, od, .func d_Queues_read, sl⟩ ∧ PySem.W.codeIn K cd "Queues.read" = true)
    (kp_Queues_read : PySem.W.keepIn K (.ref f_Queues_read) = true)
    (ma_Queues_read : PySem.W.findIn K (.ref c_Queues) "read" = some (some (.ref f_Queues_read)))
    (mb_Queues_read : PySem.W.isFn K (.ref f_Queues_read) = true)
    (l_Queues_leave : ∃ oc od kV dc pm an cd ct sl, d_Queues_leave = PySem.W.fnOf "leave" "Queues.leave" (defArgs s_Queues_leave) (defBody s_Queues_leave) (defScope s_Queues_leave) .none kV dc pm an cd ct ∧ K.lookup f_Queues_leave = some ⟨oc, od, .func d_Queues_leave, sl⟩ ∧ PySem.W.codeIn K cd "Queues.leave" = true)
    (kp_Queues_leave : PySem.W.keepIn K (.ref f_Queues_leave) = true)
    (ma_Queues_leave : PySem.W.findIn K (.ref c_Queues) "leave" = some (some (.ref f_Queues_leave)))
    (mb_Queues_leave : PySem.W.isFn K (.ref f_Queues_leave) = true)
    (l_Queues_dropped : ∃ oc od kV dc pm an cd ct sl, d_Queues_dropped = PySem.W.fnOf "dropped" "Queues.dropped" (defArgs s_Queues_dropped) (defBody s_Queues_dropped) (defScope s_Queues_dropped) .none kV dc pm an cd ct ∧ K.lookup f_Queues_dropped = some ⟨oc, od, .func d_Queues_dropped, sl⟩ ∧ PySem.W.codeIn K cd "Queues.dropped" = true)
    (kp_Queues_dropped : PySem.W.keepIn K (.ref f_Queues_dropped) = true)
    (ma_Queues_dropped : PySem.W.findIn K (.ref c_Queues) "dropped" = some (some (.ref f_Queues_dropped)))
    (mb_Queues_dropped : PySem.W.isFn K (.ref f_Queues_dropped) = true)
    (l_Queues_loads : ∃ oc od kV dc pm an cd ct sl, d_Queues_loads = PySem.W.fnOf "loads" "Queues.loads" (defArgs s_Queues_loads) (defBody s_Queues_loads) (defScope s_Queues_loads) .none kV dc pm an cd ct ∧ K.lookup f_Queues_loads = some ⟨oc, od, .func d_Queues_loads, sl⟩ ∧ PySem.W.codeIn K cd "Queues.loads" = true)
    (kp_Queues_loads : PySem.W.keepIn K (.ref f_Queues_loads) = true)
    (ma_Queues_loads : PySem.W.findIn K (.ref c_Queues) "loads" = some (some (.ref f_Queues_loads)))
    (mb_Queues_loads : PySem.W.isFn K (.ref f_Queues_loads) = true)
    (l_Queues_stores : ∃ oc od kV dc pm an cd ct sl, d_Queues_stores = PySem.W.fnOf "stores" "Queues.stores" (defArgs s_Queues_stores) (defBody s_Queues_stores) (defScope s_Queues_stores) .none kV dc pm an cd ct ∧ K.lookup f_Queues_stores = some ⟨oc, od, .func d_Queues_stores, sl⟩ ∧ PySem.W.codeIn K cd "Queues.stores" = true)
    (kp_Queues_stores : PySem.W.keepIn K (.ref f_Queues_stores) = true)
    (ma_Queues_stores : PySem.W.findIn K (.ref c_Queues) "stores" = some (some (.ref f_Queues_stores)))
    (mb_Queues_stores : PySem.W.isFn K (.ref f_Queues_stores) = true)
    (l_Queues___eq__ : ∃ oc od kV dc pm an cd ct sl, d_Queues___eq__ = PySem.W.fnOf "__eq__" "Queues.__eq__" (defArgs s_Queues___eq__) (defBody s_Queues___eq__) (defScope s_Queues___eq__) .none kV dc pm an cd ct ∧ K.lookup f_Queues___eq__ = some ⟨oc, od, .func d_Queues___eq__, sl⟩ ∧ PySem.W.codeIn K cd "Queues.__eq__" = true)
    (kp_Queues___eq__ : PySem.W.keepIn K (.ref f_Queues___eq__) = true)
    (ma_Queues___eq__ : PySem.W.findIn K (.ref c_Queues) "__eq__" = some (some (.ref f_Queues___eq__)))
    (mb_Queues___eq__ : PySem.W.isFn K (.ref f_Queues___eq__) = true)
    (a__law_pot : PySem.W.nsIn K mainGlobals "_law_pot" = some (some (.ref f__law_pot)))
    (l__law_pot : ∃ oc od kV dc pm an cd ct sl, d__law_pot = PySem.W.fnOf "_law_pot" "_law_pot" (defArgs s__law_pot) (defBody s__law_pot) (defScope s__law_pot) .none kV dc pm an cd ct ∧ K.lookup f__law_pot = some ⟨oc, od, .func d__law_pot, sl⟩ ∧ PySem.W.codeIn K cd "_law_pot" = true)
    (kp__law_pot : PySem.W.keepIn K (.ref f__law_pot) = true)
    (a__law_draw : PySem.W.nsIn K mainGlobals "_law_draw" = some (some (.ref f__law_draw)))
    (l__law_draw : ∃ oc od kV dc pm an cd ct sl, d__law_draw = PySem.W.fnOf "_law_draw" "_law_draw" (defArgs s__law_draw) (defBody s__law_draw) (defScope s__law_draw) .none kV dc pm an cd ct ∧ K.lookup f__law_draw = some ⟨oc, od, .func d__law_draw, sl⟩ ∧ PySem.W.codeIn K cd "_law_draw" = true)
    (kp__law_draw : PySem.W.keepIn K (.ref f__law_draw) = true)
    (a__law_rows : PySem.W.nsIn K mainGlobals "_law_rows" = some (some (.ref f__law_rows)))
    (l__law_rows : ∃ oc od kV dc pm an cd ct sl, d__law_rows = PySem.W.fnOf "_law_rows" "_law_rows" (defArgs s__law_rows) (defBody s__law_rows) (defScope s__law_rows) .none kV dc pm an cd ct ∧ K.lookup f__law_rows = some ⟨oc, od, .func d__law_rows, sl⟩ ∧ PySem.W.codeIn K cd "_law_rows" = true)
    (kp__law_rows : PySem.W.keepIn K (.ref f__law_rows) = true)
    (a__law_plain : PySem.W.nsIn K mainGlobals "_law_plain" = some (some (.ref f__law_plain)))
    (l__law_plain : ∃ oc od kV dc pm an cd ct sl, d__law_plain = PySem.W.fnOf "_law_plain" "_law_plain" (defArgs s__law_plain) (defBody s__law_plain) (defScope s__law_plain) .none kV dc pm an cd ct ∧ K.lookup f__law_plain = some ⟨oc, od, .func d__law_plain, sl⟩ ∧ PySem.W.codeIn K cd "_law_plain" = true)
    (kp__law_plain : PySem.W.keepIn K (.ref f__law_plain) = true)
    (a__law_done : PySem.W.nsIn K mainGlobals "_law_done" = some (some (.ref f__law_done)))
    (l__law_done : ∃ oc od kV dc pm an cd ct sl, d__law_done = PySem.W.fnOf "_law_done" "_law_done" (defArgs s__law_done) (defBody s__law_done) (defScope s__law_done) .none kV dc pm an cd ct ∧ K.lookup f__law_done = some ⟨oc, od, .func d__law_done, sl⟩ ∧ PySem.W.codeIn K cd "_law_done" = true)
    (kp__law_done : PySem.W.keepIn K (.ref f__law_done) = true)
    (a__law_read_from : PySem.W.nsIn K mainGlobals "_law_read_from" = some (some (.ref f__law_read_from)))
    (l__law_read_from : ∃ oc od kV dc pm an cd ct sl, d__law_read_from = PySem.W.fnOf "_law_read_from" "_law_read_from" (defArgs s__law_read_from) (defBody s__law_read_from) (defScope s__law_read_from) .none kV dc pm an cd ct ∧ K.lookup f__law_read_from = some ⟨oc, od, .func d__law_read_from, sl⟩ ∧ PySem.W.codeIn K cd "_law_read_from" = true)
    (kp__law_read_from : PySem.W.keepIn K (.ref f__law_read_from) = true)
    (a__law_right : PySem.W.nsIn K mainGlobals "_law_right" = some (some (.ref f__law_right)))
    (l__law_right : ∃ oc od kV dc pm an cd ct sl, d__law_right = PySem.W.fnOf "_law_right" "_law_right" (defArgs s__law_right) (defBody s__law_right) (defScope s__law_right) .none kV dc pm an cd ct ∧ K.lookup f__law_right = some ⟨oc, od, .func d__law_right, sl⟩ ∧ PySem.W.codeIn K cd "_law_right" = true)
    (kp__law_right : PySem.W.keepIn K (.ref f__law_right) = true)
    (a_law : PySem.W.nsIn K mainGlobals "law" = some (some (.ref f_law)))
    (l_law : ∃ oc od kV dc pm an cd ct sl, d_law = PySem.W.fnOf "law" "law" (defArgs s_law) (defBody s_law) (defScope s_law) .none kV dc pm an cd ct ∧ K.lookup f_law = some ⟨oc, od, .func d_law, sl⟩ ∧ PySem.W.codeIn K cd "law" = true)
    (kp_law : PySem.W.keepIn K (.ref f_law) = true)
    (z_abs : PySem.W.nsIn K mainGlobals "abs" = some none)
    (z_bool : PySem.W.nsIn K mainGlobals "bool" = some none)
    (z_divmod : PySem.W.nsIn K mainGlobals "divmod" = some none)
    (z_enumerate : PySem.W.nsIn K mainGlobals "enumerate" = some none)
    (z_int : PySem.W.nsIn K mainGlobals "int" = some none)
    (z_isinstance : PySem.W.nsIn K mainGlobals "isinstance" = some none)
    (z_len : PySem.W.nsIn K mainGlobals "len" = some none)
    (z_list : PySem.W.nsIn K mainGlobals "list" = some none)
    (z_max : PySem.W.nsIn K mainGlobals "max" = some none)
    (z_range : PySem.W.nsIn K mainGlobals "range" = some none)
    (z_sorted : PySem.W.nsIn K mainGlobals "sorted" = some none)
    (v_MOST_WORD : PySem.W.nsIn K mainGlobals "MOST_WORD" = some (some (.int 65536 t_MOST_WORD)))
    (v_MOST_PLACE : PySem.W.nsIn K mainGlobals "MOST_PLACE" = some (some (.int 1024 t_MOST_PLACE)))
    (v_MOST_ROOMS : PySem.W.nsIn K mainGlobals "MOST_ROOMS" = some (some (.int 8 t_MOST_ROOMS)))
    : ∃ fd : FuncData, (∀ (s : Shared) (v : Value), BindsTo s fd ⟨[v], []⟩ [("_law_script", v)]) ∧ ∀ base : Heap, K.In base → base.Ns mainGlobals mg → FnOk l.prog w K mg base (L2.CX l.prog w) 8 fa fd ["_law_script"] (sp_law K) := by
  have T : Txt K mg ⟨f_CoreError___init__, d_CoreError___init__, f_is_integer, d_is_integer, f_is_count, d_is_count, f_want_many, d_want_many, f_is_word, d_is_word, f_is_place, d_is_place, f_want_word, d_want_word, f_want_place, d_want_place, f_Queues___init__, d_Queues___init__, f_Queues_all_numbers, d_Queues_all_numbers, f_Queues_source_of, d_Queues_source_of, f_Queues_told_known, d_Queues_told_known, f_Queues_note_read, d_Queues_note_read, f_Queues_drop_from, d_Queues_drop_from, f_Queues_leave_oldest, d_Queues_leave_oldest, f_Queues_want_new, d_Queues_want_new, f_Queues_row_of, d_Queues_row_of, f_Queues_is_source, d_Queues_is_source, f_Queues_can_load, d_Queues_can_load, p_Queues_can_load, f_Queues_can_store, d_Queues_can_store, p_Queues_can_store, f_Queues_load_entered, d_Queues_load_entered, f_Queues_store_entered, d_Queues_store_entered, f_Queues_known, d_Queues_known, f_Queues_source, d_Queues_source, f_Queues_read, d_Queues_read, f_Queues_leave, d_Queues_leave, f_Queues_dropped, d_Queues_dropped, f_Queues_loads, d_Queues_loads, f_Queues_stores, d_Queues_stores, f_Queues___eq__, d_Queues___eq__, f__law_pot, d__law_pot, f__law_draw, d__law_draw, f__law_rows, d__law_rows, f__law_plain, d__law_plain, f__law_done, d__law_done, f__law_read_from, d__law_read_from, f__law_right, d__law_right, f_law, d_law, c_CoreError, c_MissingError, c_StateError, c_InvalidWord, c_InvalidPlace, c_InvalidMany, c_InvalidNumber, c_InvalidSource, c_UnknownNumber, c_HasRead, c_IsKnown, c_NoRoom, c_NotOldest, c_Queues, t_MOST_WORD, t_MOST_PLACE, t_MOST_ROOMS⟩ := {
    g_CoreError := PySem.W.mg_of X G a_CoreError,
    x_CoreError := (by obtain ⟨nm, q, N, bs, sn, sub, ab, col, dd, k0, k1, k2, k3, k5, e⟩ := xc_CoreError; exact ⟨⟨nm, q, N, bs, _, sn, sub, ab, col, dd, k0, k1, k2, k3, k5, e, by simp [PySem.HandSPX.refsVE]⟩, xs_CoreError, xb_CoreError, xy_CoreError, xk_CoreError⟩),
    xi_CoreError := xi_CoreError,
    xn_CoreError_value := xn_CoreError_value,
    g_MissingError := PySem.W.mg_of X G a_MissingError,
    g_StateError := PySem.W.mg_of X G a_StateError,
    g_InvalidWord := PySem.W.mg_of X G a_InvalidWord,
    x_InvalidWord := (by obtain ⟨nm, q, N, bs, sn, sub, ab, col, dd, k0, k1, k2, k3, k5, e⟩ := xc_InvalidWord; exact ⟨⟨nm, q, N, bs, _, sn, sub, ab, col, dd, k0, k1, k2, k3, k5, e, by simp [PySem.HandSPX.refsVE]⟩, xs_InvalidWord, xb_InvalidWord, xy_InvalidWord, xk_InvalidWord⟩),
    xi_InvalidWord := xi_InvalidWord,
    xn_InvalidWord_value := xn_InvalidWord_value,
    g_InvalidPlace := PySem.W.mg_of X G a_InvalidPlace,
    x_InvalidPlace := (by obtain ⟨nm, q, N, bs, sn, sub, ab, col, dd, k0, k1, k2, k3, k5, e⟩ := xc_InvalidPlace; exact ⟨⟨nm, q, N, bs, _, sn, sub, ab, col, dd, k0, k1, k2, k3, k5, e, by simp [PySem.HandSPX.refsVE]⟩, xs_InvalidPlace, xb_InvalidPlace, xy_InvalidPlace, xk_InvalidPlace⟩),
    xi_InvalidPlace := xi_InvalidPlace,
    xn_InvalidPlace_value := xn_InvalidPlace_value,
    g_InvalidMany := PySem.W.mg_of X G a_InvalidMany,
    x_InvalidMany := (by obtain ⟨nm, q, N, bs, sn, sub, ab, col, dd, k0, k1, k2, k3, k5, e⟩ := xc_InvalidMany; exact ⟨⟨nm, q, N, bs, _, sn, sub, ab, col, dd, k0, k1, k2, k3, k5, e, by simp [PySem.HandSPX.refsVE]⟩, xs_InvalidMany, xb_InvalidMany, xy_InvalidMany, xk_InvalidMany⟩),
    xi_InvalidMany := xi_InvalidMany,
    xn_InvalidMany_value := xn_InvalidMany_value,
    g_InvalidNumber := PySem.W.mg_of X G a_InvalidNumber,
    x_InvalidNumber := (by obtain ⟨nm, q, N, bs, sn, sub, ab, col, dd, k0, k1, k2, k3, k5, e⟩ := xc_InvalidNumber; exact ⟨⟨nm, q, N, bs, _, sn, sub, ab, col, dd, k0, k1, k2, k3, k5, e, by simp [PySem.HandSPX.refsVE]⟩, xs_InvalidNumber, xb_InvalidNumber, xy_InvalidNumber, xk_InvalidNumber⟩),
    xi_InvalidNumber := xi_InvalidNumber,
    xn_InvalidNumber_value := xn_InvalidNumber_value,
    g_InvalidSource := PySem.W.mg_of X G a_InvalidSource,
    x_InvalidSource := (by obtain ⟨nm, q, N, bs, sn, sub, ab, col, dd, k0, k1, k2, k3, k5, e⟩ := xc_InvalidSource; exact ⟨⟨nm, q, N, bs, _, sn, sub, ab, col, dd, k0, k1, k2, k3, k5, e, by simp [PySem.HandSPX.refsVE]⟩, xs_InvalidSource, xb_InvalidSource, xy_InvalidSource, xk_InvalidSource⟩),
    xi_InvalidSource := xi_InvalidSource,
    xn_InvalidSource_value := xn_InvalidSource_value,
    g_UnknownNumber := PySem.W.mg_of X G a_UnknownNumber,
    g_HasRead := PySem.W.mg_of X G a_HasRead,
    g_IsKnown := PySem.W.mg_of X G a_IsKnown,
    g_NoRoom := PySem.W.mg_of X G a_NoRoom,
    g_NotOldest := PySem.W.mg_of X G a_NotOldest,
    g_Queues := PySem.W.mg_of X G a_Queues,
    c_Queues := ⟨pg_Queues, hd_Queues, po_Queues, sa_Queues⟩,
    n_Queues_own_load_rooms := n_Queues_own_load_rooms,
    n_Queues_own_store_rooms := n_Queues_own_store_rooms,
    n_Queues_own_loads := n_Queues_own_loads,
    n_Queues_own_stores := n_Queues_own_stores,
    i_Queues := ⟨ia_Queues, ib_Queues, ic_Queues, id_Queues⟩,
    is_Queues := (by simp [PySem.W.notFirst]),
    io_Queues := (by simp [PySem.W.kitOne]),
    k_Queues := ⟨mk_Queues, mi_Queues, mf_Queues, kc_Queues⟩,
    F_CoreError___init__ := ⟨l_CoreError___init__, kp_CoreError___init__⟩,
    b_CoreError___init__ := (Fun.binds (st := s_CoreError___init__) ⟨l_CoreError___init__, kp_CoreError___init__⟩ fun _ _ _ _ _ _ us hl => match us, hl with | [_, _], _ => rfl),
    xt_CoreError___init__ := xt_CoreError___init__,
    m_is_integer := PySem.W.mg_of X G a_is_integer,
    F_is_integer := ⟨l_is_integer, kp_is_integer⟩,
    b_is_integer := (Fun.binds (st := s_is_integer) ⟨l_is_integer, kp_is_integer⟩ fun _ _ _ _ _ _ us hl => match us, hl with | [_], _ => rfl),
    m_is_count := PySem.W.mg_of X G a_is_count,
    F_is_count := ⟨l_is_count, kp_is_count⟩,
    b_is_count := (Fun.binds (st := s_is_count) ⟨l_is_count, kp_is_count⟩ fun _ _ _ _ _ _ us hl => match us, hl with | [_], _ => rfl),
    m_want_many := PySem.W.mg_of X G a_want_many,
    F_want_many := ⟨l_want_many, kp_want_many⟩,
    b_want_many := (Fun.binds (st := s_want_many) ⟨l_want_many, kp_want_many⟩ fun _ _ _ _ _ _ us hl => match us, hl with | [_, _, _], _ => rfl),
    m_is_word := PySem.W.mg_of X G a_is_word,
    F_is_word := ⟨l_is_word, kp_is_word⟩,
    b_is_word := (Fun.binds (st := s_is_word) ⟨l_is_word, kp_is_word⟩ fun _ _ _ _ _ _ us hl => match us, hl with | [_], _ => rfl),
    m_is_place := PySem.W.mg_of X G a_is_place,
    F_is_place := ⟨l_is_place, kp_is_place⟩,
    b_is_place := (Fun.binds (st := s_is_place) ⟨l_is_place, kp_is_place⟩ fun _ _ _ _ _ _ us hl => match us, hl with | [_], _ => rfl),
    m_want_word := PySem.W.mg_of X G a_want_word,
    F_want_word := ⟨l_want_word, kp_want_word⟩,
    b_want_word := (Fun.binds (st := s_want_word) ⟨l_want_word, kp_want_word⟩ fun _ _ _ _ _ _ us hl => match us, hl with | [_], _ => rfl),
    m_want_place := PySem.W.mg_of X G a_want_place,
    F_want_place := ⟨l_want_place, kp_want_place⟩,
    b_want_place := (Fun.binds (st := s_want_place) ⟨l_want_place, kp_want_place⟩ fun _ _ _ _ _ _ us hl => match us, hl with | [_], _ => rfl),
    F_Queues___init__ := ⟨l_Queues___init__, kp_Queues___init__⟩,
    b_Queues___init__ := (Fun.binds (st := s_Queues___init__) ⟨l_Queues___init__, kp_Queues___init__⟩ fun _ _ _ _ _ _ us hl => match us, hl with | [_, _, _], _ => rfl),
    F_Queues_all_numbers := ⟨l_Queues_all_numbers, kp_Queues_all_numbers⟩,
    b_Queues_all_numbers := (Fun.binds (st := s_Queues_all_numbers) ⟨l_Queues_all_numbers, kp_Queues_all_numbers⟩ fun _ _ _ _ _ _ us hl => match us, hl with | [_], _ => rfl),
    M_Queues_all_numbers := ⟨ma_Queues_all_numbers, mb_Queues_all_numbers, kp_Queues_all_numbers⟩,
    F_Queues_source_of := ⟨l_Queues_source_of, kp_Queues_source_of⟩,
    b_Queues_source_of := (Fun.binds (st := s_Queues_source_of) ⟨l_Queues_source_of, kp_Queues_source_of⟩ fun _ _ _ _ _ _ us hl => match us, hl with | [_, _, _], _ => rfl),
    M_Queues_source_of := ⟨ma_Queues_source_of, mb_Queues_source_of, kp_Queues_source_of⟩,
    F_Queues_told_known := ⟨l_Queues_told_known, kp_Queues_told_known⟩,
    b_Queues_told_known := (Fun.binds (st := s_Queues_told_known) ⟨l_Queues_told_known, kp_Queues_told_known⟩ fun _ _ _ _ _ _ us hl => match us, hl with | [_, _, _, _], _ => rfl),
    M_Queues_told_known := ⟨ma_Queues_told_known, mb_Queues_told_known, kp_Queues_told_known⟩,
    F_Queues_note_read := ⟨l_Queues_note_read, kp_Queues_note_read⟩,
    b_Queues_note_read := (Fun.binds (st := s_Queues_note_read) ⟨l_Queues_note_read, kp_Queues_note_read⟩ fun _ _ _ _ _ _ us hl => match us, hl with | [_, _, _, _], _ => rfl),
    M_Queues_note_read := ⟨ma_Queues_note_read, mb_Queues_note_read, kp_Queues_note_read⟩,
    F_Queues_drop_from := ⟨l_Queues_drop_from, kp_Queues_drop_from⟩,
    b_Queues_drop_from := (Fun.binds (st := s_Queues_drop_from) ⟨l_Queues_drop_from, kp_Queues_drop_from⟩ fun _ _ _ _ _ _ us hl => match us, hl with | [_, _], _ => rfl),
    M_Queues_drop_from := ⟨ma_Queues_drop_from, mb_Queues_drop_from, kp_Queues_drop_from⟩,
    F_Queues_leave_oldest := ⟨l_Queues_leave_oldest, kp_Queues_leave_oldest⟩,
    b_Queues_leave_oldest := (Fun.binds (st := s_Queues_leave_oldest) ⟨l_Queues_leave_oldest, kp_Queues_leave_oldest⟩ fun _ _ _ _ _ _ us hl => match us, hl with | [_, _], _ => rfl),
    M_Queues_leave_oldest := ⟨ma_Queues_leave_oldest, mb_Queues_leave_oldest, kp_Queues_leave_oldest⟩,
    F_Queues_want_new := ⟨l_Queues_want_new, kp_Queues_want_new⟩,
    b_Queues_want_new := (Fun.binds (st := s_Queues_want_new) ⟨l_Queues_want_new, kp_Queues_want_new⟩ fun _ _ _ _ _ _ us hl => match us, hl with | [_, _], _ => rfl),
    M_Queues_want_new := ⟨ma_Queues_want_new, mb_Queues_want_new, kp_Queues_want_new⟩,
    F_Queues_row_of := ⟨l_Queues_row_of, kp_Queues_row_of⟩,
    b_Queues_row_of := (Fun.binds (st := s_Queues_row_of) ⟨l_Queues_row_of, kp_Queues_row_of⟩ fun _ _ _ _ _ _ us hl => match us, hl with | [_, _, _], _ => rfl),
    M_Queues_row_of := ⟨ma_Queues_row_of, mb_Queues_row_of, kp_Queues_row_of⟩,
    F_Queues_is_source := ⟨l_Queues_is_source, kp_Queues_is_source⟩,
    b_Queues_is_source := (Fun.binds (st := s_Queues_is_source) ⟨l_Queues_is_source, kp_Queues_is_source⟩ fun _ _ _ _ _ _ us hl => match us, hl with | [_, _, _, _], _ => rfl),
    M_Queues_is_source := ⟨ma_Queues_is_source, mb_Queues_is_source, kp_Queues_is_source⟩,
    F_Queues_can_load := ⟨l_Queues_can_load, kp_Queues_can_load⟩,
    b_Queues_can_load := (Fun.binds (st := s_Queues_can_load) ⟨l_Queues_can_load, kp_Queues_can_load⟩ fun _ _ _ _ _ _ us hl => match us, hl with | [_], _ => rfl),
    p_Queues_can_load := ⟨pa_Queues_can_load, pb_Queues_can_load, pt_Queues_can_load, pr_Queues_can_load⟩,
    F_Queues_can_store := ⟨l_Queues_can_store, kp_Queues_can_store⟩,
    b_Queues_can_store := (Fun.binds (st := s_Queues_can_store) ⟨l_Queues_can_store, kp_Queues_can_store⟩ fun _ _ _ _ _ _ us hl => match us, hl with | [_], _ => rfl),
    p_Queues_can_store := ⟨pa_Queues_can_store, pb_Queues_can_store, pt_Queues_can_store, pr_Queues_can_store⟩,
    F_Queues_load_entered := ⟨l_Queues_load_entered, kp_Queues_load_entered⟩,
    b_Queues_load_entered := (Fun.binds (st := s_Queues_load_entered) ⟨l_Queues_load_entered, kp_Queues_load_entered⟩ fun _ _ _ _ _ _ us hl => match us, hl with | [_, _], _ => rfl),
    M_Queues_load_entered := ⟨ma_Queues_load_entered, mb_Queues_load_entered, kp_Queues_load_entered⟩,
    F_Queues_store_entered := ⟨l_Queues_store_entered, kp_Queues_store_entered⟩,
    b_Queues_store_entered := (Fun.binds (st := s_Queues_store_entered) ⟨l_Queues_store_entered, kp_Queues_store_entered⟩ fun _ _ _ _ _ _ us hl => match us, hl with | [_, _], _ => rfl),
    M_Queues_store_entered := ⟨ma_Queues_store_entered, mb_Queues_store_entered, kp_Queues_store_entered⟩,
    F_Queues_known := ⟨l_Queues_known, kp_Queues_known⟩,
    b_Queues_known := (Fun.binds (st := s_Queues_known) ⟨l_Queues_known, kp_Queues_known⟩ fun _ _ _ _ _ _ us hl => match us, hl with | [_, _, _, _], _ => rfl),
    M_Queues_known := ⟨ma_Queues_known, mb_Queues_known, kp_Queues_known⟩,
    F_Queues_source := ⟨l_Queues_source, kp_Queues_source⟩,
    b_Queues_source := (Fun.binds (st := s_Queues_source) ⟨l_Queues_source, kp_Queues_source⟩ fun _ _ _ _ _ _ us hl => match us, hl with | [_, _, _], _ => rfl),
    M_Queues_source := ⟨ma_Queues_source, mb_Queues_source, kp_Queues_source⟩,
    F_Queues_read := ⟨l_Queues_read, kp_Queues_read⟩,
    b_Queues_read := (Fun.binds (st := s_Queues_read) ⟨l_Queues_read, kp_Queues_read⟩ fun _ _ _ _ _ _ us hl => match us, hl with | [_, _, _, _], _ => rfl),
    M_Queues_read := ⟨ma_Queues_read, mb_Queues_read, kp_Queues_read⟩,
    F_Queues_leave := ⟨l_Queues_leave, kp_Queues_leave⟩,
    b_Queues_leave := (Fun.binds (st := s_Queues_leave) ⟨l_Queues_leave, kp_Queues_leave⟩ fun _ _ _ _ _ _ us hl => match us, hl with | [_, _], _ => rfl),
    M_Queues_leave := ⟨ma_Queues_leave, mb_Queues_leave, kp_Queues_leave⟩,
    F_Queues_dropped := ⟨l_Queues_dropped, kp_Queues_dropped⟩,
    b_Queues_dropped := (Fun.binds (st := s_Queues_dropped) ⟨l_Queues_dropped, kp_Queues_dropped⟩ fun _ _ _ _ _ _ us hl => match us, hl with | [_, _], _ => rfl),
    M_Queues_dropped := ⟨ma_Queues_dropped, mb_Queues_dropped, kp_Queues_dropped⟩,
    F_Queues_loads := ⟨l_Queues_loads, kp_Queues_loads⟩,
    b_Queues_loads := (Fun.binds (st := s_Queues_loads) ⟨l_Queues_loads, kp_Queues_loads⟩ fun _ _ _ _ _ _ us hl => match us, hl with | [_], _ => rfl),
    M_Queues_loads := ⟨ma_Queues_loads, mb_Queues_loads, kp_Queues_loads⟩,
    F_Queues_stores := ⟨l_Queues_stores, kp_Queues_stores⟩,
    b_Queues_stores := (Fun.binds (st := s_Queues_stores) ⟨l_Queues_stores, kp_Queues_stores⟩ fun _ _ _ _ _ _ us hl => match us, hl with | [_], _ => rfl),
    M_Queues_stores := ⟨ma_Queues_stores, mb_Queues_stores, kp_Queues_stores⟩,
    F_Queues___eq__ := ⟨l_Queues___eq__, kp_Queues___eq__⟩,
    b_Queues___eq__ := (Fun.binds (st := s_Queues___eq__) ⟨l_Queues___eq__, kp_Queues___eq__⟩ fun _ _ _ _ _ _ us hl => match us, hl with | [_, _], _ => rfl),
    M_Queues___eq__ := ⟨ma_Queues___eq__, mb_Queues___eq__, kp_Queues___eq__⟩,
    m__law_pot := PySem.W.mg_of X G a__law_pot,
    F__law_pot := ⟨l__law_pot, kp__law_pot⟩,
    b__law_pot := (Fun.binds (st := s__law_pot) ⟨l__law_pot, kp__law_pot⟩ fun _ _ _ _ _ _ us hl => match us, hl with | [_, _], _ => rfl),
    m__law_draw := PySem.W.mg_of X G a__law_draw,
    F__law_draw := ⟨l__law_draw, kp__law_draw⟩,
    b__law_draw := (Fun.binds (st := s__law_draw) ⟨l__law_draw, kp__law_draw⟩ fun _ _ _ _ _ _ us hl => match us, hl with | [_, _], _ => rfl),
    m__law_rows := PySem.W.mg_of X G a__law_rows,
    F__law_rows := ⟨l__law_rows, kp__law_rows⟩,
    b__law_rows := (Fun.binds (st := s__law_rows) ⟨l__law_rows, kp__law_rows⟩ fun _ _ _ _ _ _ us hl => match us, hl with | [_], _ => rfl),
    m__law_plain := PySem.W.mg_of X G a__law_plain,
    F__law_plain := ⟨l__law_plain, kp__law_plain⟩,
    b__law_plain := (Fun.binds (st := s__law_plain) ⟨l__law_plain, kp__law_plain⟩ fun _ _ _ _ _ _ us hl => match us, hl with | [_], _ => rfl),
    m__law_done := PySem.W.mg_of X G a__law_done,
    F__law_done := ⟨l__law_done, kp__law_done⟩,
    b__law_done := (Fun.binds (st := s__law_done) ⟨l__law_done, kp__law_done⟩ fun _ _ _ _ _ _ us hl => match us, hl with | [_, _, _, _, _], _ => rfl),
    m__law_read_from := PySem.W.mg_of X G a__law_read_from,
    F__law_read_from := ⟨l__law_read_from, kp__law_read_from⟩,
    b__law_read_from := (Fun.binds (st := s__law_read_from) ⟨l__law_read_from, kp__law_read_from⟩ fun _ _ _ _ _ _ us hl => match us, hl with | [_, _], _ => rfl),
    m__law_right := PySem.W.mg_of X G a__law_right,
    F__law_right := ⟨l__law_right, kp__law_right⟩,
    b__law_right := (Fun.binds (st := s__law_right) ⟨l__law_right, kp__law_right⟩ fun _ _ _ _ _ _ us hl => match us, hl with | [_], _ => rfl),
    m_law := PySem.W.mg_of X G a_law,
    F_law := ⟨l_law, kp_law⟩,
    b_law := (Fun.binds (st := s_law) ⟨l_law, kp_law⟩ fun _ _ _ _ _ _ us hl => match us, hl with | [_], _ => rfl),
    z_abs := PySem.W.mg_none_of X G z_abs,
    z_bool := PySem.W.mg_none_of X G z_bool,
    z_divmod := PySem.W.mg_none_of X G z_divmod,
    z_enumerate := PySem.W.mg_none_of X G z_enumerate,
    z_int := PySem.W.mg_none_of X G z_int,
    z_isinstance := PySem.W.mg_none_of X G z_isinstance,
    z_len := PySem.W.mg_none_of X G z_len,
    z_list := PySem.W.mg_none_of X G z_list,
    z_max := PySem.W.mg_none_of X G z_max,
    z_range := PySem.W.mg_none_of X G z_range,
    z_sorted := PySem.W.mg_none_of X G z_sorted,
    v_MOST_WORD := PySem.W.mg_of X G v_MOST_WORD,
    v_MOST_PLACE := PySem.W.mg_of X G v_MOST_PLACE,
    v_MOST_ROOMS := PySem.W.mg_of X G v_MOST_ROOMS }
  have e := hfa.symm.trans T.m_law
  cases e
  refine ⟨d_law, fun s v => ?_, fun base _ _ => ok_law T⟩
  obtain ⟨oc, od, kV, dc, pm, an, cd, ct, sl, e, _, _⟩ := l_law
  rw [e]
  exact .of_eq rfl
theorem walk {l : PySem.W.OpenLaw} {q : Program} {loose : List Str} {XP : (Str → Option Value) → Heap → Prop} {YP : World → Heap → Prop} {d : DefRec} {K : Params → PySem.W.Frag} (hn : l.most = some 63) (hdf : d.params.defaults = [])
    (hY : ∀ (w : World) (h : Heap), YP w h → (K w.params).In h)
    (F : ∀ (w : World) (mg : Str → Option Value) (fa : Addr) (h : Heap), (K w.params).In h → h.Ns mainGlobals mg → mg d.name = some (.ref fa) →
      ∃ fd : FuncData, (∀ (s : Shared) (u : Value), BindsTo s fd ⟨[u], []⟩ [("_law_script", u)]) ∧ ∀ base : Heap, (K w.params).In base → base.Ns mainGlobals mg → FnOk l.prog w (K w.params) mg base (L2.CX l.prog w) 8 fa fd ["_law_script"] (sp_law (K w.params))) :
    PySem.W.WalkO q loose XP YP l.row.toRowW d [] (fun f vs => PySem.call f vs) :=
  L2.walk_of (n := 63) (k := 8) (x := "_law_script") (CX := fun w => L2.CX l.prog w) (sp := fun w => sp_law (K w.params)) hn (by decide) hdf ⟨rfl, by decide, by decide⟩ hY F (fun _ _ a ns hl _ hS => ⟨a, ns, rfl, hS, hl, fun _ => rfl⟩) fun w H s e s' z => (by
    obtain ⟨_, _, _, _, _, _, _, _, _, _, _, _, z⟩ := z
    exact z)
end Toy
open PySem PySem.W PyProof.Rows
set_option maxRecDepth 100000 in
set_option maxHeartbeats 0 in
theorem PySem.Challenge.cw_orderlycore_k77_whole_loads_get_what_the_holds : PySem.Challenge.rw_orderlycore_k77_whole_loads_get_what_the.Holds := by
  w_on; o_law; k_head; (case hw => w_witness2)
  k_fill
  refine Toy.walk (l := PySem.Challenge.rw_orderlycore_k77_whole_loads_get_what_the) rfl rfl (fun w h Y => PySem.W.kIn_of Y) ?F
  case F =>
    intro w mg fa h KX G hmg
    refine' Toy.all_mk KX G hmg ?a_CoreError ?xc_CoreError ?xs_CoreError ?xb_CoreError ?xy_CoreError ?xk_CoreError ?xi_CoreError ?xn_CoreError_value ?a_MissingError ?a_StateError ?a_InvalidWord ?xc_InvalidWord ?xs_InvalidWord ?xb_InvalidWord ?xy_InvalidWord ?xk_InvalidWord ?xi_InvalidWord ?xn_InvalidWord_value ?a_InvalidPlace ?xc_InvalidPlace ?xs_InvalidPlace ?xb_InvalidPlace ?xy_InvalidPlace ?xk_InvalidPlace ?xi_InvalidPlace ?xn_InvalidPlace_value ?a_InvalidMany ?xc_InvalidMany ?xs_InvalidMany ?xb_InvalidMany ?xy_InvalidMany ?xk_InvalidMany ?xi_InvalidMany ?xn_InvalidMany_value ?a_InvalidNumber ?xc_InvalidNumber ?xs_InvalidNumber ?xb_InvalidNumber ?xy_InvalidNumber ?xk_InvalidNumber ?xi_InvalidNumber ?xn_InvalidNumber_value ?a_InvalidSource ?xc_InvalidSource ?xs_InvalidSource ?xb_InvalidSource ?xy_InvalidSource ?xk_InvalidSource ?xi_InvalidSource ?xn_InvalidSource_value ?a_UnknownNumber ?a_HasRead ?a_IsKnown ?a_NoRoom ?a_NotOldest ?a_Queues ?pg_Queues ?hd_Queues ?po_Queues ?sa_Queues ?n_Queues_own_load_rooms ?n_Queues_own_store_rooms ?n_Queues_own_loads ?n_Queues_own_stores ?ia_Queues ?ib_Queues ?ic_Queues ?id_Queues ?mk_Queues ?mi_Queues ?mf_Queues ?kc_Queues ?l_CoreError___init__ ?kp_CoreError___init__ ?xt_CoreError___init__ ?a_is_integer ?l_is_integer ?kp_is_integer ?a_is_count ?l_is_count ?kp_is_count ?a_want_many ?l_want_many ?kp_want_many ?a_is_word ?l_is_word ?kp_is_word ?a_is_place ?l_is_place ?kp_is_place ?a_want_word ?l_want_word ?kp_want_word ?a_want_place ?l_want_place ?kp_want_place ?l_Queues___init__ ?kp_Queues___init__ ?l_Queues_all_numbers ?kp_Queues_all_numbers ?ma_Queues_all_numbers ?mb_Queues_all_numbers ?l_Queues_source_of ?kp_Queues_source_of ?ma_Queues_source_of ?mb_Queues_source_of ?l_Queues_told_known ?kp_Queues_told_known ?ma_Queues_told_known ?mb_Queues_told_known ?l_Queues_note_read ?kp_Queues_note_read ?ma_Queues_note_read ?mb_Queues_note_read ?l_Queues_drop_from ?kp_Queues_drop_from ?ma_Queues_drop_from ?mb_Queues_drop_from ?l_Queues_leave_oldest ?kp_Queues_leave_oldest ?ma_Queues_leave_oldest ?mb_Queues_leave_oldest ?l_Queues_want_new ?kp_Queues_want_new ?ma_Queues_want_new ?mb_Queues_want_new ?l_Queues_row_of ?kp_Queues_row_of ?ma_Queues_row_of ?mb_Queues_row_of ?l_Queues_is_source ?kp_Queues_is_source ?ma_Queues_is_source ?mb_Queues_is_source ?l_Queues_can_load ?kp_Queues_can_load ?pa_Queues_can_load ?pb_Queues_can_load ?pt_Queues_can_load ?pr_Queues_can_load ?l_Queues_can_store ?kp_Queues_can_store ?pa_Queues_can_store ?pb_Queues_can_store ?pt_Queues_can_store ?pr_Queues_can_store ?l_Queues_load_entered ?kp_Queues_load_entered ?ma_Queues_load_entered ?mb_Queues_load_entered ?l_Queues_store_entered ?kp_Queues_store_entered ?ma_Queues_store_entered ?mb_Queues_store_entered ?l_Queues_known ?kp_Queues_known ?ma_Queues_known ?mb_Queues_known ?l_Queues_source ?kp_Queues_source ?ma_Queues_source ?mb_Queues_source ?l_Queues_read ?kp_Queues_read ?ma_Queues_read ?mb_Queues_read ?l_Queues_leave ?kp_Queues_leave ?ma_Queues_leave ?mb_Queues_leave ?l_Queues_dropped ?kp_Queues_dropped ?ma_Queues_dropped ?mb_Queues_dropped ?l_Queues_loads ?kp_Queues_loads ?ma_Queues_loads ?mb_Queues_loads ?l_Queues_stores ?kp_Queues_stores ?ma_Queues_stores ?mb_Queues_stores ?l_Queues___eq__ ?kp_Queues___eq__ ?ma_Queues___eq__ ?mb_Queues___eq__ ?a__law_pot ?l__law_pot ?kp__law_pot ?a__law_draw ?l__law_draw ?kp__law_draw ?a__law_rows ?l__law_rows ?kp__law_rows ?a__law_plain ?l__law_plain ?kp__law_plain ?a__law_done ?l__law_done ?kp__law_done ?a__law_read_from ?l__law_read_from ?kp__law_read_from ?a__law_right ?l__law_right ?kp__law_right ?a_law ?l_law ?kp_law ?z_abs ?z_bool ?z_divmod ?z_enumerate ?z_int ?z_isinstance ?z_len ?z_list ?z_max ?z_range ?z_sorted ?v_MOST_WORD ?v_MOST_PLACE ?v_MOST_ROOMS
    (case a_CoreError => k_is)
    (case xs_CoreError => k_is)
    (case xb_CoreError => k_is)
    (case xy_CoreError => k_is)
    (case xk_CoreError => k_is)
    (case xi_CoreError => k_is)
    (case xn_CoreError_value => k_is)
    (case a_MissingError => k_is)
    (case a_StateError => k_is)
    (case a_InvalidWord => k_is)
    (case xs_InvalidWord => k_is)
    (case xb_InvalidWord => k_is)
    (case xy_InvalidWord => k_is)
    (case xk_InvalidWord => k_is)
    (case xi_InvalidWord => k_is)
    (case xn_InvalidWord_value => k_is)
    (case a_InvalidPlace => k_is)
    (case xs_InvalidPlace => k_is)
    (case xb_InvalidPlace => k_is)
    (case xy_InvalidPlace => k_is)
    (case xk_InvalidPlace => k_is)
    (case xi_InvalidPlace => k_is)
    (case xn_InvalidPlace_value => k_is)
    (case a_InvalidMany => k_is)
    (case xs_InvalidMany => k_is)
    (case xb_InvalidMany => k_is)
    (case xy_InvalidMany => k_is)
    (case xk_InvalidMany => k_is)
    (case xi_InvalidMany => k_is)
    (case xn_InvalidMany_value => k_is)
    (case a_InvalidNumber => k_is)
    (case xs_InvalidNumber => k_is)
    (case xb_InvalidNumber => k_is)
    (case xy_InvalidNumber => k_is)
    (case xk_InvalidNumber => k_is)
    (case xi_InvalidNumber => k_is)
    (case xn_InvalidNumber_value => k_is)
    (case a_InvalidSource => k_is)
    (case xs_InvalidSource => k_is)
    (case xb_InvalidSource => k_is)
    (case xy_InvalidSource => k_is)
    (case xk_InvalidSource => k_is)
    (case xi_InvalidSource => k_is)
    (case xn_InvalidSource_value => k_is)
    (case a_UnknownNumber => k_is)
    (case a_HasRead => k_is)
    (case a_IsKnown => k_is)
    (case a_NoRoom => k_is)
    (case a_NotOldest => k_is)
    (case a_Queues => k_is)
    (case pg_Queues => k_is)
    (case hd_Queues => k_is)
    (case po_Queues => k_is)
    (case sa_Queues => k_is)
    (case n_Queues_own_load_rooms => k_is)
    (case n_Queues_own_store_rooms => k_is)
    (case n_Queues_own_loads => k_is)
    (case n_Queues_own_stores => k_is)
    (case ia_Queues => k_is)
    (case ib_Queues => k_is)
    (case ic_Queues => k_is)
    (case id_Queues => k_is)
    (case mk_Queues => k_is)
    (case mi_Queues => k_is)
    (case kc_Queues => k_is)
    (case a_is_integer => k_is)
    (case a_is_count => k_is)
    (case a_want_many => k_is)
    (case a_is_word => k_is)
    (case a_is_place => k_is)
    (case a_want_word => k_is)
    (case a_want_place => k_is)
    (case ma_Queues_all_numbers => k_is)
    (case ma_Queues_source_of => k_is)
    (case ma_Queues_told_known => k_is)
    (case ma_Queues_note_read => k_is)
    (case ma_Queues_drop_from => k_is)
    (case ma_Queues_leave_oldest => k_is)
    (case ma_Queues_want_new => k_is)
    (case ma_Queues_row_of => k_is)
    (case ma_Queues_is_source => k_is)
    (case pa_Queues_can_load => k_is)
    (case pa_Queues_can_store => k_is)
    (case ma_Queues_load_entered => k_is)
    (case ma_Queues_store_entered => k_is)
    (case ma_Queues_known => k_is)
    (case ma_Queues_source => k_is)
    (case ma_Queues_read => k_is)
    (case ma_Queues_leave => k_is)
    (case ma_Queues_dropped => k_is)
    (case ma_Queues_loads => k_is)
    (case ma_Queues_stores => k_is)
    (case ma_Queues___eq__ => k_is)
    (case a__law_pot => k_is)
    (case a__law_draw => k_is)
    (case a__law_rows => k_is)
    (case a__law_plain => k_is)
    (case a__law_done => k_is)
    (case a__law_read_from => k_is)
    (case a__law_right => k_is)
    (case a_law => k_is)
    (case z_abs => k_is)
    (case z_bool => k_is)
    (case z_divmod => k_is)
    (case z_enumerate => k_is)
    (case z_int => k_is)
    (case z_isinstance => k_is)
    (case z_len => k_is)
    (case z_list => k_is)
    (case z_max => k_is)
    (case z_range => k_is)
    (case z_sorted => k_is)
    (case v_MOST_WORD => k_is)
    (case v_MOST_PLACE => k_is)
    (case v_MOST_ROOMS => k_is)
    (case xc_CoreError => exact ⟨_, _, _, _, _, _, _, _, _, _, _, _, _, _, by k_is⟩)
    (case xc_InvalidWord => exact ⟨_, _, _, _, _, _, _, _, _, _, _, _, _, _, by k_is⟩)
    (case xc_InvalidPlace => exact ⟨_, _, _, _, _, _, _, _, _, _, _, _, _, _, by k_is⟩)
    (case xc_InvalidMany => exact ⟨_, _, _, _, _, _, _, _, _, _, _, _, _, _, by k_is⟩)
    (case xc_InvalidNumber => exact ⟨_, _, _, _, _, _, _, _, _, _, _, _, _, _, by k_is⟩)
    (case xc_InvalidSource => exact ⟨_, _, _, _, _, _, _, _, _, _, _, _, _, _, by k_is⟩)
    (case pb_Queues_can_load => k_is)
    (case pt_Queues_can_load => k_is)
    (case pr_Queues_can_load => exact ⟨_, by k_is⟩)
    (case pb_Queues_can_store => k_is)
    (case pt_Queues_can_store => k_is)
    (case pr_Queues_can_store => exact ⟨_, by k_is⟩)
    (case mf_Queues => k_is)
    (case l_CoreError___init__ => exact ⟨_, _, _, _, _, _, _, _, _, rfl, by k_is, by k_is⟩)
    (case kp_CoreError___init__ => k_is)
    (case xt_CoreError___init__ => k_is)
    (case l_is_integer => exact ⟨_, _, _, _, _, _, _, _, _, rfl, by k_is, by k_is⟩)
    (case kp_is_integer => k_is)
    (case l_is_count => exact ⟨_, _, _, _, _, _, _, _, _, rfl, by k_is, by k_is⟩)
    (case kp_is_count => k_is)
    (case l_want_many => exact ⟨_, _, _, _, _, _, _, _, _, rfl, by k_is, by k_is⟩)
    (case kp_want_many => k_is)
    (case l_is_word => exact ⟨_, _, _, _, _, _, _, _, _, rfl, by k_is, by k_is⟩)
    (case kp_is_word => k_is)
    (case l_is_place => exact ⟨_, _, _, _, _, _, _, _, _, rfl, by k_is, by k_is⟩)
    (case kp_is_place => k_is)
    (case l_want_word => exact ⟨_, _, _, _, _, _, _, _, _, rfl, by k_is, by k_is⟩)
    (case kp_want_word => k_is)
    (case l_want_place => exact ⟨_, _, _, _, _, _, _, _, _, rfl, by k_is, by k_is⟩)
    (case kp_want_place => k_is)
    (case l_Queues___init__ => exact ⟨_, _, _, _, _, _, _, _, _, rfl, by k_is, by k_is⟩)
    (case kp_Queues___init__ => k_is)
    (case l_Queues_all_numbers => exact ⟨_, _, _, _, _, _, _, _, _, rfl, by k_is, by k_is⟩)
    (case kp_Queues_all_numbers => k_is)
    (case mb_Queues_all_numbers => k_is)
    (case l_Queues_source_of => exact ⟨_, _, _, _, _, _, _, _, _, rfl, by k_is, by k_is⟩)
    (case kp_Queues_source_of => k_is)
    (case mb_Queues_source_of => k_is)
    (case l_Queues_told_known => exact ⟨_, _, _, _, _, _, _, _, _, rfl, by k_is, by k_is⟩)
    (case kp_Queues_told_known => k_is)
    (case mb_Queues_told_known => k_is)
    (case l_Queues_note_read => exact ⟨_, _, _, _, _, _, _, _, _, rfl, by k_is, by k_is⟩)
    (case kp_Queues_note_read => k_is)
    (case mb_Queues_note_read => k_is)
    (case l_Queues_drop_from => exact ⟨_, _, _, _, _, _, _, _, _, rfl, by k_is, by k_is⟩)
    (case kp_Queues_drop_from => k_is)
    (case mb_Queues_drop_from => k_is)
    (case l_Queues_leave_oldest => exact ⟨_, _, _, _, _, _, _, _, _, rfl, by k_is, by k_is⟩)
    (case kp_Queues_leave_oldest => k_is)
    (case mb_Queues_leave_oldest => k_is)
    (case l_Queues_want_new => exact ⟨_, _, _, _, _, _, _, _, _, rfl, by k_is, by k_is⟩)
    (case kp_Queues_want_new => k_is)
    (case mb_Queues_want_new => k_is)
    (case l_Queues_row_of => exact ⟨_, _, _, _, _, _, _, _, _, rfl, by k_is, by k_is⟩)
    (case kp_Queues_row_of => k_is)
    (case mb_Queues_row_of => k_is)
    (case l_Queues_is_source => exact ⟨_, _, _, _, _, _, _, _, _, rfl, by k_is, by k_is⟩)
    (case kp_Queues_is_source => k_is)
    (case mb_Queues_is_source => k_is)
    (case l_Queues_can_load => exact ⟨_, _, _, _, _, _, _, _, _, rfl, by k_is, by k_is⟩)
    (case kp_Queues_can_load => k_is)
    (case l_Queues_can_store => exact ⟨_, _, _, _, _, _, _, _, _, rfl, by k_is, by k_is⟩)
    (case kp_Queues_can_store => k_is)
    (case l_Queues_load_entered => exact ⟨_, _, _, _, _, _, _, _, _, rfl, by k_is, by k_is⟩)
    (case kp_Queues_load_entered => k_is)
    (case mb_Queues_load_entered => k_is)
    (case l_Queues_store_entered => exact ⟨_, _, _, _, _, _, _, _, _, rfl, by k_is, by k_is⟩)
    (case kp_Queues_store_entered => k_is)
    (case mb_Queues_store_entered => k_is)
    (case l_Queues_known => exact ⟨_, _, _, _, _, _, _, _, _, rfl, by k_is, by k_is⟩)
    (case kp_Queues_known => k_is)
    (case mb_Queues_known => k_is)
    (case l_Queues_source => exact ⟨_, _, _, _, _, _, _, _, _, rfl, by k_is, by k_is⟩)
    (case kp_Queues_source => k_is)
    (case mb_Queues_source => k_is)
    (case l_Queues_read => exact ⟨_, _, _, _, _, _, _, _, _, rfl, by k_is, by k_is⟩)
    (case kp_Queues_read => k_is)
    (case mb_Queues_read => k_is)
    (case l_Queues_leave => exact ⟨_, _, _, _, _, _, _, _, _, rfl, by k_is, by k_is⟩)
    (case kp_Queues_leave => k_is)
    (case mb_Queues_leave => k_is)
    (case l_Queues_dropped => exact ⟨_, _, _, _, _, _, _, _, _, rfl, by k_is, by k_is⟩)
    (case kp_Queues_dropped => k_is)
    (case mb_Queues_dropped => k_is)
    (case l_Queues_loads => exact ⟨_, _, _, _, _, _, _, _, _, rfl, by k_is, by k_is⟩)
    (case kp_Queues_loads => k_is)
    (case mb_Queues_loads => k_is)
    (case l_Queues_stores => exact ⟨_, _, _, _, _, _, _, _, _, rfl, by k_is, by k_is⟩)
    (case kp_Queues_stores => k_is)
    (case mb_Queues_stores => k_is)
    (case l_Queues___eq__ => exact ⟨_, _, _, _, _, _, _, _, _, rfl, by k_is, by k_is⟩)
    (case kp_Queues___eq__ => k_is)
    (case mb_Queues___eq__ => k_is)
    (case l__law_pot => exact ⟨_, _, _, _, _, _, _, _, _, rfl, by k_is, by k_is⟩)
    (case kp__law_pot => k_is)
    (case l__law_draw => exact ⟨_, _, _, _, _, _, _, _, _, rfl, by k_is, by k_is⟩)
    (case kp__law_draw => k_is)
    (case l__law_rows => exact ⟨_, _, _, _, _, _, _, _, _, rfl, by k_is, by k_is⟩)
    (case kp__law_rows => k_is)
    (case l__law_plain => exact ⟨_, _, _, _, _, _, _, _, _, rfl, by k_is, by k_is⟩)
    (case kp__law_plain => k_is)
    (case l__law_done => exact ⟨_, _, _, _, _, _, _, _, _, rfl, by k_is, by k_is⟩)
    (case kp__law_done => k_is)
    (case l__law_read_from => exact ⟨_, _, _, _, _, _, _, _, _, rfl, by k_is, by k_is⟩)
    (case kp__law_read_from => k_is)
    (case l__law_right => exact ⟨_, _, _, _, _, _, _, _, _, rfl, by k_is, by k_is⟩)
    (case kp__law_right => k_is)
    (case l_law => exact ⟨_, _, _, _, _, _, _, _, _, rfl, by k_is, by k_is⟩)
    (case kp_law => k_is)
#print axioms PySem.Challenge.cw_orderlycore_k77_whole_loads_get_what_the_holds
