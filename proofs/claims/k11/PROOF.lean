import PyProof.Rows.All
import Wide.All
import OpenK.AllK
import Wide.FinOn
import HandS.ForMost
import HandS.ForExc
import HandS.Property
import HandS.IsInst
import HandS.ExcInit
import HandS.Defaults
import HandS.MakeKwOnly
import HandS.Flow
import HandS.CallSlots
import HandS.Evl
import HandS.Wide
import HandS.Walk
import HandS.Style
import PySem.Challenge.RW_orderlycore_k11_whole_words_bit_by_bit
set_option Elab.async false
set_option linter.all false
set_option maxRecDepth 100000
set_option maxHeartbeats 4000000

namespace Toy
open PySem L2
theorem exm_self {K : PySem.W.Frag} {S : Addr} (h1 : PySem.W.subIn K (.ref S) (.type "BaseException") = some true) (h2 : PySem.W.isClsIn K S = true) (h3 : PySem.W.typeIn K (.ref S) = some (.type "type")) (h4 : PySem.W.subIn K (.ref S) (.ref S) = some true) :
    PySem.W.exmOne K (.ref S) (.ref S) = some true := by
  have e1 : (PySem.W.subIn K (.ref S) (.type "BaseException") == some true) = true := by rw [h1] <;> rfl
  have e2 : ((PySem.W.clsIn K S).isSome && PySem.W.typeIn K (.ref S) == some (.type "type")) = true := by
    have h2' : (PySem.W.clsIn K S).isSome = true := h2
    rw [h2', h3] <;> rfl
  show (if (PySem.W.subIn K (.ref S) (.type "BaseException") == some true) = true then (if ((PySem.W.clsIn K S).isSome && PySem.W.typeIn K (.ref S) == some (.type "type")) = true then PySem.W.subIn K (.ref S) (.ref S) else none) else none) = some true
  rw [if_pos e1, if_pos e2]
  exact h4
theorem vals_getD {vs : List V} {us : List Value} (r : Vals vs us) (i : Nat) : RelV (vs.getD i V.non) (us.getD i PySem.Value.none) := by
  induction r generalizing i with
  | nil => rfl
  | cons h t ih =>
    cases i with
    | zero => exact h
    | succ i => exact ih i
theorem kbn_of {K : PySem.W.Frag} {x qual : Str} {st : Stmt} {f : Addr} {fd : FuncData} {ps ks : List Str} {n : Nat} {g : List Value → List Value → List Value} {gV : List V → List V → List V} (F : Fun K x qual st f fd)
    (h : ∀ (kV doc pm : Value) (an : Option Addr) (cdv ct : Value) (us ws : List Value), us.length = n → ws.length = ks.length → bindArgs (PySem.W.fnOf x qual (defArgs st) (defBody st) (defScope st) .none kV doc pm an cdv ct) ⟨us, ks.zip ws⟩ = pure (ps.zip (g us ws)))
    (hr : ∀ {vs : List V} {us : List Value} {zs : List V} {ws : List Value}, Vals vs us → Vals zs ws → Vals (gV vs zs) (g us ws)) : KBn K fd ps n ks g gV := by
  obtain ⟨oc, od, kV, doc, pm, an, cdv, ct, osl, rfl, lk, hcd⟩ := F.ex
  exact ⟨fun s us ws _ h1 h2 => .of_eq (h kV doc pm an cdv ct us ws h1 h2), hr⟩
theorem same_new {H : Hp} {p : Addr} {o : HO} (h : H p = none) : Same H (upd H p o) := fun b u e => by
  rw [upd_ne (ne_of_none e h)]
  exact e
theorem same_ty {K : PySem.W.Frag} {H H' : Hp} {v : V} {t : Value} (e : Same H H') (h : TyX K H v t) : TyX K H' v t := by
  cases h with
  | base h =>
    refine .base ?_
    cases h with
    | non => exact .non
    | bl x => exact .bl x
    | int i => exact .int i
    | str x => exact .str x
    | flt x => exact .flt x
    | lst q => exact .lst (e _ _ q)
    | frz q => exact .frz (e _ _ q)
    | tup q => exact .tup (e _ _ q)
    | dK q => exact .dK (e _ _ q)
    | dT q => exact .dT (e _ _ q)
    | ins q cl ha hn htk hm => exact .ins (e _ _ q) cl ha hn htk hm
  | byt b => exact .byt b
  | set q => exact .set (e _ _ q)
  | kList q c => exact .kList q c
  | kTuple q c => exact .kTuple q c
  | kDict q c => exact .kDict q c
  | fTuple q => exact .fTuple (e _ _ q)
  | fDict q => exact .fDict (e _ _ q)
/-! ### stepping through a reading -/
section
variable {K : PySem.W.Frag} {σ τ : St} {H H' : Hp} {Q : VK} {D : Ends} {nx bk ct : St → Hp → Prop} {rt : VK} {v x y : V} {te ta tb : TE} {t u : TS} {c d : TT} {p : Addr}
theorem w_in {N : List Str} {vs : List V} (h : start N vs = σ) (q : t D σ H) : t D (start N vs) H := by rw [h]; exact q
theorem w_var {i : Nat} (h : σ[i]? = some (some v)) (q : Q v H) : tVar i σ H Q := ⟨v, h, q⟩
theorem w_c (q : Q v H) : tC v σ H Q := q
theorem w_op {r : R2} (q : ta σ H fun x H1 => tb σ H1 fun y H2 => r x y H2 Q) : tOp r ta tb σ H Q := q
theorem w_un {r : V → Hp → VK → Prop} (q : ta σ H fun x H1 => r x H1 Q) : tUn r ta σ H Q := q
theorem w_I0 {g : Int → Int → V} {i j : Int} (q : Q (g i j) H) : rI0 g (.int i) (.int j) H Q := ⟨i, j, rfl, rfl, q⟩
theorem w_I {C : Int → Int → Prop} {g : Int → Int → V} {i j : Int} (hc : C i j) (q : Q (g i j) H) : rI C g (.int i) (.int j) H Q := ⟨i, j, rfl, rfl, hc, q⟩
theorem w_U {g : Int → V} {i : Int} (q : Q (g i) H) : rU g (.int i) H Q := ⟨i, rfl, q⟩
theorem w_eq (h : scal x y = true) (q : Q (.bl (decide (x = y))) H) : rEq x y H Q := ⟨h, q⟩
theorem w_ne (h : scal x y = true) (q : Q (.bl (!decide (x = y))) H) : rNe x y H Q := ⟨h, q⟩
theorem w_cb {r : List V → Hp → VK → Prop} {t : TA} (q : t σ H fun vs H1 => r vs H1 Q) : tCB r t σ H Q := q
theorem w_nil {Q : List V → Hp → Prop} (q : Q [] H) : tNil σ H Q := q
theorem w_cons {Q : List V → Hp → Prop} {tr : TA} (q : ta σ H fun x H1 => tr σ H1 fun xs H2 => Q (x :: xs) H2) : tCons ta tr σ H Q := q
theorem w_call {sp : Sp} {dvs : List V} {E : XK} {t : TA} (q : t σ H fun vs H1 => sp (vs ++ dvs) H1 Q E) : tCall sp dvs E t σ H Q := q
theorem w_tup {t : TA} (q : t σ H fun xs H1 => xs.length ≤ sizeLine ∧ ∀ p, H1 p = none → Q (.ref p) (upd H1 p (.tup xs))) : tTup t σ H Q := q
theorem w_lst {t : TA} (q : t σ H fun xs H1 => xs.length ≤ sizeLine ∧ ∀ p, H1 p = none → Q (.ref p) (upd H1 p (.lst xs))) : tLst t σ H Q := q
theorem w_laid {n : Nat} {R : Addr → Prop} (h : n ≤ 100000) (q : ∀ p, H p = none → R p) : n ≤ sizeLine ∧ ∀ p, H p = none → R p := ⟨Nat.le_trans h (by decide), q⟩
def kFld (K : PySem.W.Frag) (f : Str) (Q : VK) (x : V) (H : Hp) : Prop := ∃ a C dx fs v, x = .ref a ∧ H a = some (.ins C dx fs) ∧ Cls K C ∧ NoAttr K C f ∧ fs.lookup f = some v ∧ Q v H
theorem w_fld0 {f : Str} (q : ta σ H fun x H1 => kFld K f Q x H1) : tFld K ta f σ H Q := q
theorem w_fld {f : Str} {a C dx : Addr} {fs : List (Str × V)} (h : H a = some (.ins C dx fs)) (hc : Cls K C) (hn : NoAttr K C f) (hl : fs.lookup f = some v) (q : Q v H) : kFld K f Q (.ref a) H :=
  ⟨a, C, dx, fs, v, rfl, h, hc, hn, hl, q⟩
def kSF (K : PySem.W.Frag) (f : Str) (nx : St → Hp → Prop) (σ : St) (y x : V) (H : Hp) : Prop := ∃ a C dx fs, x = .ref a ∧ H a = some (.ins C dx fs) ∧ Cls K C ∧ NoAttr K C f ∧ fs.length < 1000 ∧ nx σ (upd H a (.ins C dx (putF f y fs)))
theorem w_sfld0 {f : Str} {tv : TE} (q : tv σ H fun y H1 => ta σ H1 fun x H2 => kSF K f nx σ y x H2) : sFld K ta tv f ⟨nx, rt, bk, ct⟩ σ H := q
theorem w_sfld {f : Str} {a C dx : Addr} {fs fs' : List (Str × V)} (h : H a = some (.ins C dx fs)) (hc : Cls K C) (hn : NoAttr K C f) (hl : fs.length < 1000) (he : putF f y fs = fs') (q : nx σ (upd H a (.ins C dx fs'))) : kSF K f nx σ y (.ref a) H :=
  ⟨a, C, dx, fs, rfl, h, hc, hn, hl, by rw [he]; exact q⟩
theorem w_meth0 {C : Addr} {m : Str} {sp : Sp} {dvs : List V} {E : XK} {t : TA} (q : ta σ H fun x H1 => ∃ a dx fs, x = .ref a ∧ H1 a = some (.ins C dx fs) ∧ fs.lookup m = none ∧ t σ H1 fun vs H2 => sp (x :: (vs ++ dvs)) H2 Q E) : tMeth C m sp dvs E ta t σ H Q := q
theorem w_meth {R : Prop} {m : Str} {a C dx : Addr} {fs : List (Str × V)} (h : H a = some (.ins C dx fs)) (hl : fs.lookup m = none) (q : R) : ∃ a' dx fs, V.ref a = .ref a' ∧ H a' = some (.ins C dx fs) ∧ fs.lookup m = none ∧ R := ⟨a, dx, fs, rfl, h, hl, q⟩
theorem w_prop0 {C : Addr} {sp : Sp} {dvs : List V} {E : XK} (q : ta σ H fun x H1 => ∃ a dx fs, x = .ref a ∧ H1 a = some (.ins C dx fs) ∧ sp (.ref a :: dvs) H1 Q E) : tProp C sp dvs E ta σ H Q := q
theorem w_prop {C a dx : Addr} {fs : List (Str × V)} {sp : Sp} {dvs : List V} {E : XK} (h : H a = some (.ins C dx fs)) (q : sp (.ref a :: dvs) H Q E) : ∃ a' dx fs, V.ref a = .ref a' ∧ H a' = some (.ins C dx fs) ∧ sp (.ref a' :: dvs) H Q E := ⟨a, dx, fs, rfl, h, q⟩
theorem w_make {C : Addr} {sp : Sp} {dvs : List V} {E : XK} {t : TA} (q : t σ H fun vs H1 => ∀ x dx, H1 x = none → H1 dx = none → dx ≠ x → sp (.ref x :: (vs ++ dvs)) (upd (upd H1 dx (.own x)) x (.ins C dx [])) (fun v H2 => v = .non ∧ Q (.ref x) H2) E) : tMake C sp dvs E t σ H Q := q
theorem w_ixL {a : Addr} {xs : List V} {i : Int} (h : SqL K H a xs) (hi : atI xs i = some v) (q : Q v H) : rIxL K (.ref a) (.int i) H Q := ⟨a, xs, i, v, rfl, rfl, h, hi, q⟩
theorem w_ixT {a : Addr} {xs : List V} {i : Int} (h : SqT K H a xs) (hi : atI xs i = some v) (q : Q v H) : rIxT K (.ref a) (.int i) H Q := ⟨a, xs, i, v, rfl, rfl, h, hi, q⟩
theorem w_setL {a : Addr} {xs : List V} {i : Int} {j : Nat} {Q : Hp → Prop} (h : H a = some (.lst xs)) (hi : ixN xs.length i = some j) (q : Q (upd H a (.lst (xs.set j v)))) : rSetL (.ref a) (.int i) v H Q := ⟨a, xs, i, j, rfl, rfl, h, hi, q⟩
theorem w_gsub {to ti : TE} {ts : TSet} {Q : St → Hp → Prop} (q : to σ H fun o H1 => ti σ H1 fun i H2 => ts o i v H2 fun H3 => Q σ H3) : gSub to ti ts v σ H Q := q
theorem w_gname {i : Nat} {Q : St → Hp → Prop} (q : Q (σ.set i (some v)) H) : gName i v σ H Q := q
theorem w_gtup {n : Nat} {ts : TGs} {a : Addr} {xs : List V} {Q : St → Hp → Prop} (h : SqT K H a xs) (hn : xs.length = n) (q : ts xs σ H Q) : gTup K n ts (.ref a) σ H Q := ⟨a, xs, rfl, h, hn, q⟩
theorem w_gcons {tg : TG} {ts : TGs} {r : List V} {Q : St → Hp → Prop} (q : tg v σ H fun σ' H' => ts r σ' H' Q) : gCons tg ts (v :: r) σ H Q := ⟨v, r, rfl, q⟩
theorem w_gnil {Q : St → Hp → Prop} (q : Q σ H) : gNil [] σ H Q := ⟨rfl, q⟩
theorem w_seq (q : t ⟨u ⟨nx, rt, bk, ct⟩, rt, bk, ct⟩ σ H) : tSeq t u ⟨nx, rt, bk, ct⟩ σ H := q
theorem w_dec {c : Prop} [Decidable c] (h : c) (q : Q (.bl true) H) : Q (.bl (decide c)) H := by rw [decide_eq_true h]; exact q
theorem w_cut (M : St → Hp → Prop) (q : t ⟨M, rt, bk, ct⟩ σ H) (k : ∀ σ' H', M σ' H' → u ⟨nx, rt, bk, ct⟩ σ' H') : Evl.tCut t u ⟨nx, rt, bk, ct⟩ σ H := ⟨M, q, k⟩
theorem w_next (q : nx σ H) : tNext ⟨nx, rt, bk, ct⟩ σ H := q
theorem w_brk (q : bk σ H) : tBreak ⟨nx, rt, bk, ct⟩ σ H := q
theorem w_cont (q : ct σ H) : tCont ⟨nx, rt, bk, ct⟩ σ H := q
theorem w_drop (q : te σ H fun _ H1 => nx σ H1) : tDrop te ⟨nx, rt, bk, ct⟩ σ H := q
theorem w_ret (q : te σ H rt) : tRet te ⟨nx, rt, bk, ct⟩ σ H := q
theorem w_retN (q : rt .non H) : tRetN ⟨nx, rt, bk, ct⟩ σ H := q
theorem w_asg {g : TG} (q : te σ H fun x H1 => g x σ H1 nx) : tAsg te g ⟨nx, rt, bk, ct⟩ σ H := q
theorem w_ifs (q : c σ H fun b H1 => if b = true then t ⟨nx, rt, bk, ct⟩ σ H1 else u ⟨nx, rt, bk, ct⟩ σ H1) : tIfS c t u ⟨nx, rt, bk, ct⟩ σ H := q
theorem w_par {i j : Nat} {t : TA} (q : t σ H fun vs H1 => ∃ v w, vs = [v, w] ∧ nx ((σ.set i (some v)).set j (some w)) H1) : tPar i j t ⟨nx, rt, bk, ct⟩ σ H := q
theorem w_vw {v w : V} {R : V → V → Prop} (q : R v w) : ∃ v' w', [v, w] = [v', w'] ∧ R v' w' := ⟨v, w, rfl, q⟩
theorem w_if0 (q : c σ H fun b H1 => if b = true then ta σ H1 Q else tb σ H1 Q) : tIf c ta tb σ H Q := q
theorem w_test {Q : Bool → Hp → Prop} (q : te σ H fun x H' => ∃ k, x = .bl k ∧ Q k H') : tTest te σ H Q := q
theorem w_B {Q : Bool → Hp → Prop} (q : te σ H fun x H' => ∃ k, x = .bl k ∧ Q k H') : tB te σ H Q := q
theorem w_and {Q : Bool → Hp → Prop} (q : c σ H fun b H1 => if b = true then d σ H1 Q else Q false H1) : tAnd c d σ H Q := q
theorem w_or {Q : Bool → Hp → Prop} (q : c σ H fun b H1 => if b = true then Q true H1 else d σ H1 Q) : tOr c d σ H Q := q
theorem w_not {Q : Bool → Hp → Prop} (q : c σ H fun b H1 => Q (!b) H1) : tNot c σ H Q := q
theorem w_andV (q : ta σ H fun x H1 => ∃ k, x = .bl k ∧ if k = true then tb σ H1 Q else Q (.bl false) H1) : tAndV ta tb σ H Q := q
theorem w_orV (q : ta σ H fun x H1 => ∃ k, x = .bl k ∧ if k = true then Q (.bl true) H1 else tb σ H1 Q) : tOrV ta tb σ H Q := q
theorem w_notV (q : ta σ H fun x H1 => ∃ k, x = .bl k ∧ Q (.bl (!k)) H1) : tNotV ta σ H Q := q
theorem w_bl {b : Bool} {R : Bool → Prop} (q : R b) : ∃ k, V.bl b = .bl k ∧ R k := ⟨b, rfl, q⟩
theorem w_iI {i : Int} {R : Int → Prop} (q : R i) : ∃ k, [V.int i] = [.int k] ∧ R k := ⟨i, rfl, q⟩
theorem w_iIJ {i j : Int} {R : Int → Int → Prop} (q : R i j) : ∃ k l, [V.int i, V.int j] = [.int k, .int l] ∧ R k l := ⟨i, j, rfl, q⟩
theorem w_int1 {i : Int} {R : Int → Prop} {S : Bool → Prop} (q : R i) : (∃ k, [V.int i] = [.int k] ∧ R k) ∨ ∃ b, [V.int i] = [.bl b] ∧ S b := .inl ⟨i, rfl, q⟩
theorem w_lenL {a : Addr} {xs : List V} {R : List V → Prop} (h : SqL K H a xs) (q : R xs) : ∃ p ys, [V.ref a] = [.ref p] ∧ (SqL K H p ys ∨ SqT K H p ys) ∧ R ys := ⟨a, xs, rfl, .inl h, q⟩
theorem w_lenT {a : Addr} {xs : List V} {R : List V → Prop} (h : SqT K H a xs) (q : R xs) : ∃ p ys, [V.ref a] = [.ref p] ∧ (SqL K H p ys ∨ SqT K H p ys) ∧ R ys := ⟨a, xs, rfl, .inr h, q⟩
theorem ifT {c A B : Prop} [Decidable c] (h : c) (q : A) : if decide c = true then A else B := by rw [decide_eq_true h]; exact iteT q
theorem ifF {c A B : Prop} [Decidable c] (h : ¬ c) (q : B) : if decide c = true then A else B := by rw [decide_eq_false h]; exact iteF q
theorem ifT' {c A B : Prop} [Decidable c] (h : c) (q : B) : if (!decide c) = true then A else B := by rw [decide_eq_true h]; exact iteF q
theorem ifF' {c A B : Prop} [Decidable c] (h : ¬ c) (q : A) : if (!decide c) = true then A else B := by rw [decide_eq_false h]; exact iteT q
theorem ifS {c A B : Prop} [Decidable c] (h1 : c → A) (h2 : ¬ c → B) : if decide c = true then A else B := by
  by_cases h : c
  · exact ifT h (h1 h)
  · exact ifF h (h2 h)
theorem ifS' {c A B : Prop} [Decidable c] (h1 : c → B) (h2 : ¬ c → A) : if (!decide c) = true then A else B := by
  by_cases h : c
  · exact ifT' h (h1 h)
  · exact ifF' h (h2 h)
theorem ifB {b : Bool} {A B : Prop} (h1 : b = true → A) (h2 : b = false → B) : if b = true then A else B := by
  cases b with
  | true => exact iteT (h1 rfl)
  | false => exact iteF (h2 rfl)
theorem w_andP {b1 b2 : Bool} {Q : Bool → Hp → Prop} (hc : ∀ R : Bool → Hp → Prop, R b1 H → c σ H R) (hd : ∀ R : Bool → Hp → Prop, R b2 H → d σ H R) (q : Q (b1 && b2) H) : tAnd c d σ H Q := by
  refine hc _ ?_
  cases b1 with
  | true => exact iteT (hd _ q)
  | false => exact iteF q
theorem w_orP {b1 b2 : Bool} {Q : Bool → Hp → Prop} (hc : ∀ R : Bool → Hp → Prop, R b1 H → c σ H R) (hd : ∀ R : Bool → Hp → Prop, R b2 H → d σ H R) (q : Q (b1 || b2) H) : tOr c d σ H Q := by
  refine hc _ ?_
  cases b1 with
  | true => exact iteT q
  | false => exact iteF (hd _ q)
theorem dec_vint {i j : Int} : decide (V.int i = V.int j) = decide (i = j) := by
  by_cases h : i = j
  · subst h; simp
  · rw [decide_eq_false h, decide_eq_false (fun e => h (V.int.inj e))]
end
/-- only what stands at p may have changed -/
def Chg (p : Addr) (H H' : Hp) : Prop := ∀ b o, H b = some o → b ≠ p → H' b = some o
theorem Chg.refl {p : Addr} {H : Hp} : Chg p H H := fun _ _ h _ => h
theorem Chg.same {p : Addr} {H H' H1 : Hp} (a : Chg p H H') (b : Same H' H1) : Chg p H H1 := fun c o h n => b c o (a c o h n)
theorem Same.chg {p : Addr} {H H' : Hp} (a : Same H H') : Chg p H H' := fun b o h _ => a b o h
theorem Chg.trans {p : Addr} {H H' H1 : Hp} (a : Chg p H H') (b : Chg p H' H1) : Chg p H H1 := fun c o h n => b c o (a c o h n) n
theorem Chg.upd {p : Addr} {H H' : Hp} {o : HO} (a : Chg p H H') : Chg p H (upd H' p o) := fun c u h n => by rw [upd_ne n]; exact a c u h n
theorem same_upd {H H' : Hp} {p : Addr} {o : HO} (a : Same H H') (h : H' p = none) : Same H (upd H' p o) := a.trans (same_new h)
theorem same_updF {H H' : Hp} {p : Addr} {o : HO} (a : Same H H') (h : H p = none) : Same H (upd H' p o) := fun b u e => by
  rw [upd_ne (ne_of_none e h)]
  exact a b u e
theorem atI_ints {ns : List Int} {k : Int} (h0 : 0 ≤ k) (h : k < (ns.map V.int).length) : ∃ n, n ∈ ns ∧ atI (ns.map V.int) k = some (.int n) ∧ ns[k.toNat]? = some n := by
  rw [List.length_map] at h
  have hj : k.toNat < ns.length := by omega
  refine ⟨ns[k.toNat], List.getElem_mem hj, ?_, List.getElem?_eq_getElem hj⟩
  have e : ((k.toNat : Nat) : Int) = k := by omega
  have q : atI (ns.map V.int) ((k.toNat : Nat) : Int) = some (V.int ns[k.toNat]) := atI_nat (by rw [List.getElem?_map]; simp [hj])
  rw [e] at q
  exact q
theorem atI_mem {xs : List V} {k : Int} (h0 : 0 ≤ k) (h : k < xs.length) : ∃ v, v ∈ xs ∧ atI xs k = some v ∧ xs[k.toNat]? = some v := by
  have hj : k.toNat < xs.length := by omega
  refine ⟨xs[k.toNat], List.getElem_mem hj, ?_, List.getElem?_eq_getElem hj⟩
  have e : ((k.toNat : Nat) : Int) = k := by omega
  have q : atI xs ((k.toNat : Nat) : Int) = some xs[k.toNat] := atI_nat (by simp [hj])
  rw [e] at q
  exact q
/-! ### methods called in a try, by keywords -/
section
open PySem.Spec PyProof.Rows
variable {X : Cx} {CX : CXT} {k : Nat} {f C : Addr} {fd : FuncData} {ps ks : List Str} {sp : Sp} {m x : Str} {p pos apos : Pos} {e o : Expr} {es : List Expr} {kws : List Keyword} {ta : TE} {t tk : TA} {g : List Value → List Value → List Value} {gV : List V → List V → List V} {n : Nat}
def tMethSx (C : Addr) (m : Str) (sp : Sp) (E : L2.St → XK) (ta : TE) (t : TA) : TE := fun σ H Q => ta σ H fun x H1 => ∃ a dx fs, x = .ref a ∧ H1 a = some (.ins C dx fs) ∧ fs.lookup m = none ∧
  t σ H1 fun vs H2 => sp (x :: vs) H2 Q (E σ)
theorem pe_methSx {E : L2.St → XK} {pl : Sem Bool} (he : PE X o ta) (c : Cls X.K C) (hm : Meth X.K C m f) (F : FnOk X.prog X.w X.K X.mg X.base CX k f fd ps sp) (hr : Room k X.A) (hb : Binds X.K fd ps []) (hx : ∀ σ, PassesAt CX X σ (E σ)) (ha : PA X (e :: es) t)
    (hst : starEach (e :: es) X.env = (false, eval e X.env) :: starEach es X.env := by rfl) (hpl : (backTo pos (starEach es X.env)).any (·.1) = false := by rfl)
    (ht : eval (.Call (.Attribute o m apos) (e :: es) [] pos) X.env = (do
      let ov ← eval o X.env
      standAt apos.atName
      let (f, first) ← holding [ov] (getMethod ov m pl)
      callWith pos f first (backTo pos (starEach (e :: es) X.env)) (backToKw pos (keywordEach [] X.env))) := by rfl) :
    PE X (.Call (.Attribute o m apos) (e :: es) [] pos) (tMethSx C m sp E ta t) := by
  refine ⟨fun pins s σ H Q I h => ?_⟩
  refine PySem.W.methodCall_KW (pl := pl) (thn (he.run pins s σ H _ I h) fun u s1 ⟨x, H1, I1, rx, a, dx, fs, ex, ea, l, q⟩ => ?_) ht
  subst ex
  obtain rfl : u = Value.ref a := rx
  refine getmeth_ok I1 ea c hm l ?_
  refine PySem.W.callWith_K (first := [.ref a]) (h₀ := X.base) I.ok.mod.kin hm.kp (thn (ha.run pos pins s1 σ H1 _ I1 q) fun us s2 ⟨vs, H2, I2, r, q2⟩ => ⟨I2.kIn, ?_⟩) hst hpl
  exact run_fnS (us := .ref a :: us) (vs := .ref a :: vs) F hr hb (hx σ) I2 (.cons rfl r) q2
def tMethN (C : Addr) (m : Str) (j l : Nat) (sp : Sp) (gV : List V → List V → List V) (E : XK) (ta : TE) (t tk : TA) : TE := fun σ H Q => ta σ H fun x H1 => ∃ a dx fs, x = .ref a ∧ H1 a = some (.ins C dx fs) ∧ fs.lookup m = none ∧
  t σ H1 fun vs H2 => tk σ H2 fun zs H3 => vs.length = j ∧ zs.length = l ∧ sp (gV (x :: vs) zs) H3 Q E
theorem pe_methN0 {E : XK} {pl : Sem Bool} (he : PE X o ta) (c : Cls X.K C) (hm : Meth X.K C m f) (F : FnOk X.prog X.w X.K X.mg X.base CX k f fd ps sp) (hr : Room k X.A) (hb : KBn X.K fd ps 1 ks g gV) (hx : Passes CX X E) (hkw : PK X kws tk)
    (hall : (backToKw pos (keywordEach kws X.env)).all (·.1.isSome) = true := by rfl) (hks : (backToKw pos (keywordEach kws X.env)).filterMap (·.1) = ks := by rfl)
    (hpl : ((backTo pos (starEach [] X.env)).any (·.1) || (backToKw pos (keywordEach kws X.env)).any (·.1.isNone)) = false := by rfl)
    (ht : eval (.Call (.Attribute o m apos) [] kws pos) X.env = (do
      let ov ← eval o X.env
      standAt apos.atName
      let (f, first) ← holding [ov] (getMethod ov m pl)
      callWith pos f first (backTo pos (starEach [] X.env)) (backToKw pos (keywordEach kws X.env))) := by rfl) :
    PE X (.Call (.Attribute o m apos) [] kws pos) (tMethN C m 0 ks.length sp gV E ta tNil tk) := by
  refine ⟨fun pins s σ H Q I h => ?_⟩
  refine PySem.W.methodCall_KW (pl := pl) (thn (he.run pins s σ H _ I h) fun u s1 ⟨x, H1, I1, rx, a, dx, fs, ex, ea, l, q⟩ => ?_) ht
  subst ex
  obtain rfl : u = Value.ref a := rx
  refine getmeth_ok I1 ea c hm l ?_
  refine PySem.W.callWith_KW0 (first := [.ref a]) (h₀ := X.base) I.ok.mod.kin hm.kp hall ?_ hpl
  refine thn (hkw.run pos pins s1 σ H1 _ I1 q) fun ws s2 ⟨zs, H2, I2, rz, l1, l2, q2⟩ => ⟨I2.kIn, ?_⟩
  rw [hks]
  exact run_fnN (us := [.ref a]) (vs := [.ref a]) F hr hb hx I2 (.cons rfl .nil) rz rfl l2 q2
theorem pe_methN {E : XK} {pl : Sem Bool} (he : PE X o ta) (c : Cls X.K C) (hm : Meth X.K C m f) (F : FnOk X.prog X.w X.K X.mg X.base CX k f fd ps sp) (hr : Room k X.A) (hb : KBn X.K fd ps (n + 1) ks g gV) (hx : Passes CX X E) (ha : PA X (e :: es) t) (hkw : PK X kws tk)
    (hall : (backToKw pos (keywordEach kws X.env)).all (·.1.isSome) = true := by rfl) (hks : (backToKw pos (keywordEach kws X.env)).filterMap (·.1) = ks := by rfl)
    (hst : starEach (e :: es) X.env = (false, eval e X.env) :: starEach es X.env := by rfl)
    (hpl : ((backTo pos (starEach (e :: es) X.env)).any (·.1) || (backToKw pos (keywordEach kws X.env)).any (·.1.isNone)) = false := by rfl)
    (ht : eval (.Call (.Attribute o m apos) (e :: es) kws pos) X.env = (do
      let ov ← eval o X.env
      standAt apos.atName
      let (f, first) ← holding [ov] (getMethod ov m pl)
      callWith pos f first (backTo pos (starEach (e :: es) X.env)) (backToKw pos (keywordEach kws X.env))) := by rfl) :
    PE X (.Call (.Attribute o m apos) (e :: es) kws pos) (tMethN C m n ks.length sp gV E ta t tk) := by
  refine ⟨fun pins s σ H Q I h => ?_⟩
  refine PySem.W.methodCall_KW (pl := pl) (thn (he.run pins s σ H _ I h) fun u s1 ⟨x, H1, I1, rx, a, dx, fs, ex, ea, l, q⟩ => ?_) ht
  subst ex
  obtain rfl : u = Value.ref a := rx
  refine getmeth_ok I1 ea c hm l ?_
  refine PySem.W.callWith_KW (first := [.ref a]) (h₀ := X.base) I.ok.mod.kin hm.kp hall (thn (ha.run pos pins s1 σ H1 _ I1 q) fun us s2 ⟨vs, H2, I2, r, q2⟩ => ?_) hpl hst
  refine thn (hkw.run pos pins s2 σ H2 _ I2 q2) fun ws s3 ⟨zs, H3, I3, rz, l1, l2, q3⟩ => ⟨I3.kIn, ?_⟩
  rw [hks]
  exact run_fnN (us := .ref a :: us) (vs := .ref a :: vs) F hr hb hx I3 (.cons rfl r) rz (by rw [List.length_cons, l1]) l2 q3
/-- f(k = v, ..) -/
theorem pe_callN0 {E : XK} (F : FnOk X.prog X.w X.K X.mg X.base CX k f fd ps sp) (hr : Room k X.A) (hg : Gl X x) (hm : X.mg x = some (.ref f)) (hk : PySem.W.keepIn X.K (.ref f) = true) (hb : KBn X.K fd ps 0 ks g gV) (hx : Passes CX X E) (hkw : PK X kws tk)
    (hall : (backToKw pos (keywordEach kws X.env)).all (·.1.isSome) = true := by rfl) (hks : (backToKw pos (keywordEach kws X.env)).filterMap (·.1) = ks := by rfl)
    (hdb : (x == ("__debug__" : Str)) = false := by decide)
    (hpl : ((backTo pos (starEach [] X.env)).any (·.1) || (backToKw pos (keywordEach kws X.env)).any (·.1.isNone)) = false := by rfl) :
    PE X (.Call (.Name x p) [] kws pos) (tCallN 0 ks.length sp gV E tNil tk) := by
  refine ⟨fun pins s σ H Q I h => ?_⟩
  refine wpAny_Call_Name_kw (ld_glob I hg hm ?_ hdb)
  refine PySem.W.callWith_KW0 (h₀ := X.base) I.ok.mod.kin hk hall ?_ hpl
  refine thn (hkw.run pos pins s σ H _ I h) fun ws s2 ⟨zs, H2, I2, rz, l1, l2, q2⟩ => ⟨I2.kIn, ?_⟩
  rw [hks]
  exact run_fnN (us := []) (vs := []) F hr hb hx I2 .nil rz rfl l2 q2
end
section
variable {K : PySem.W.Frag} {σ : St} {H : Hp} {Q : VK} {ta : TE} {t tk : TA} {v : V}
theorem w_methSx0 {C : Addr} {m : Str} {sp : Sp} {E : St → XK} (q : ta σ H fun x H1 => ∃ a dx fs, x = .ref a ∧ H1 a = some (.ins C dx fs) ∧ fs.lookup m = none ∧ t σ H1 fun vs H2 => sp (x :: vs) H2 Q (E σ)) : tMethSx C m sp E ta t σ H Q := q
theorem w_methN0 {C : Addr} {m : Str} {j l : Nat} {sp : Sp} {gV : List V → List V → List V} {E : XK} (q : ta σ H fun x H1 => ∃ a dx fs, x = .ref a ∧ H1 a = some (.ins C dx fs) ∧ fs.lookup m = none ∧ t σ H1 fun vs H2 => tk σ H2 fun zs H3 => vs.length = j ∧ zs.length = l ∧ sp (gV (x :: vs) zs) H3 Q E) : tMethN C m j l sp gV E ta t tk σ H Q := q
theorem w_callN {j l : Nat} {sp : Sp} {gV : List V → List V → List V} {E : XK} (q : t σ H fun vs H1 => tk σ H1 fun zs H2 => vs.length = j ∧ zs.length = l ∧ sp (gV vs zs) H2 Q E) : tCallN j l sp gV E t tk σ H Q := q
theorem w_callS {sp : Sp} {E : St → XK} (q : t σ H fun vs H1 => sp vs H1 Q (E σ)) : tCallS sp E t σ H Q := q
theorem w_rfl {α : Type} {x : α} {R : Prop} (q : R) : x = x ∧ R := ⟨rfl, q⟩
theorem w_ea {α : Type} {x y : α} {R : Prop} (h : x = y) (q : R) : x = y ∧ R := ⟨h, q⟩
theorem w_yes {Q : Bool → Hp → Prop} (q : Q true H) : tYes σ H Q := q
end
theorem iteNT {A B : Prop} (h : B) : if (!true) = true then A else B := h
theorem iteNF {A B : Prop} (h : A) : if (!false) = true then A else B := h
/-! ### comprehensions without tests: each item gives a known value -/
section
variable {K : PySem.W.Frag} {σ : L2.St} {H : Hp} {Q : VK} {g : TG} {te tl : TE} {l : Addr} {xs ys : List V} {vs : List Nat}
theorem w_lc0L (q : tl σ H fun x H1 => ∃ a, x = .ref a ∧ (∃ xs, SqL K H1 a xs) ∧ ∀ D, H1 D = none → ∃ W : Nat → Nat → Hp → Prop, (∃ m, W 0 m (upd H1 D (.lst []))) ∧ ∀ i m H, W i m H →
      ((Itl K a).stop i H ∧ Q (.ref D) H) ∨ ((Itl K a).go i H ∧ ∃ Nx : Hp → Prop, (∀ H', Nx H' → ∃ m', m' < m ∧ W (i + 1) m' H') ∧ ∀ x H', (Itl K a).yld i H x H' → g x (wipe σ vs) H' fun σ2 H2 => wipe σ2 vs = wipe σ vs ∧ tYes σ2 H2 fun b H3 =>
        if b = true then te σ2 H3 fun y H4 => ∃ acc, H4 D = some (.lst acc) ∧ acc.length < sizeLine ∧ Nx (upd H4 D (.lst (acc ++ [y]))) else Nx H3)) : tLc (iList K tl) g tYes te vs σ H Q := q
theorem w_lc0T (q : tl σ H fun x H1 => ∃ a, x = .ref a ∧ (∃ xs, SqT K H1 a xs) ∧ ∀ D, H1 D = none → ∃ W : Nat → Nat → Hp → Prop, (∃ m, W 0 m (upd H1 D (.lst []))) ∧ ∀ i m H, W i m H →
      ((Itt K a).stop i H ∧ Q (.ref D) H) ∨ ((Itt K a).go i H ∧ ∃ Nx : Hp → Prop, (∀ H', Nx H' → ∃ m', m' < m ∧ W (i + 1) m' H') ∧ ∀ x H', (Itt K a).yld i H x H' → g x (wipe σ vs) H' fun σ2 H2 => wipe σ2 vs = wipe σ vs ∧ tYes σ2 H2 fun b H3 =>
        if b = true then te σ2 H3 fun y H4 => ∃ acc, H4 D = some (.lst acc) ∧ acc.length < sizeLine ∧ Nx (upd H4 D (.lst (acc ++ [y]))) else Nx H3)) : tLc (iTup K tl) g tYes te vs σ H Q := q
theorem lc_inv {f : Nat → V} {D : Addr} {H' : Hp} {i : Nat} (nD : H D = none) (s : Same H H') (hD : H' D = some (.lst ((List.range i).map f))) (v : V) (hv : v = f i) :
    Same H (upd H' D (.lst (((List.range i).map f) ++ [v]))) ∧ (upd H' D (.lst (((List.range i).map f) ++ [v]))) D = some (.lst ((List.range (i + 1)).map f)) := by
  refine ⟨same_updF s nD, ?_⟩
  rw [upd_same, List.range_succ, List.map_append, hv]
  rfl
/-- the i-th item gives f i; nothing that stood is changed -/
theorem w_lcL (f : Nat → V) (h : SqL K H l xs) (hz : xs.length ≤ 100000)
    (step : ∀ (i : Nat) (x : V) (H' : Hp) (R : VK) (S : Hp → Prop), xs[i]? = some x → Same H H' → (∀ H4, Same H' H4 → R (f i) H4) → g x (wipe σ vs) H' fun σ2 H2 => wipe σ2 vs = wipe σ vs ∧ tYes σ2 H2 fun b H3 => if b = true then te σ2 H3 R else S H3)
    (q : ∀ D H', Same H H' → H D = none → H' D = some (.lst ((List.range xs.length).map f)) → Q (.ref D) H') : ∃ a, V.ref l = .ref a ∧ (∃ xs, SqL K H a xs) ∧ ∀ D, H D = none → ∃ W : Nat → Nat → Hp → Prop, (∃ m, W 0 m (upd H D (.lst []))) ∧ ∀ i m H, W i m H →
      ((Itl K a).stop i H ∧ Q (.ref D) H) ∨ ((Itl K a).go i H ∧ ∃ Nx : Hp → Prop, (∀ H', Nx H' → ∃ m', m' < m ∧ W (i + 1) m' H') ∧ ∀ x H', (Itl K a).yld i H x H' → g x (wipe σ vs) H' fun σ2 H2 => wipe σ2 vs = wipe σ vs ∧ tYes σ2 H2 fun b H3 =>
        if b = true then te σ2 H3 fun y H4 => ∃ acc, H4 D = some (.lst acc) ∧ acc.length < sizeLine ∧ Nx (upd H4 D (.lst (acc ++ [y]))) else Nx H3) := by
  refine ⟨l, rfl, ⟨xs, h⟩, fun D nD => ?_⟩
  refine lc_list (K := K) (a := l) (xs := xs) (fun i H' => i ≤ xs.length ∧ Same H H' ∧ H' D = some (.lst ((List.range i).map f))) ⟨Nat.zero_le _, same_new nD, upd_same⟩ (fun i H' _ p => p.2.1.seq h) (fun i x H' hx p => ?_) (fun H' p => q D H' p.2.1 nD p.2.2)
  have hi : i < xs.length := (List.getElem?_eq_some_iff.mp hx).1
  refine step i x H' _ _ hx p.2.1 fun H4 s4 => ?_
  have hD4 := s4 _ _ p.2.2
  refine ⟨_, hD4, ?_, hi, lc_inv nD (p.2.1.trans s4) hD4 _ rfl⟩
  rw [List.length_map, List.length_range]
  exact Nat.lt_of_lt_of_le (Nat.lt_of_lt_of_le hi hz) (by decide)
theorem w_lcT (f : Nat → V) (h : SqT K H l xs) (hz : xs.length ≤ 100000) (hs : ∀ H', Same H H' → SqT K H' l xs)
    (step : ∀ (i : Nat) (x : V) (H' : Hp) (R : VK) (S : Hp → Prop), xs[i]? = some x → Same H H' → (∀ H4, Same H' H4 → R (f i) H4) → g x (wipe σ vs) H' fun σ2 H2 => wipe σ2 vs = wipe σ vs ∧ tYes σ2 H2 fun b H3 => if b = true then te σ2 H3 R else S H3)
    (q : ∀ D H', Same H H' → H D = none → H' D = some (.lst ((List.range xs.length).map f)) → Q (.ref D) H') : ∃ a, V.ref l = .ref a ∧ (∃ xs, SqT K H a xs) ∧ ∀ D, H D = none → ∃ W : Nat → Nat → Hp → Prop, (∃ m, W 0 m (upd H D (.lst []))) ∧ ∀ i m H, W i m H →
      ((Itt K a).stop i H ∧ Q (.ref D) H) ∨ ((Itt K a).go i H ∧ ∃ Nx : Hp → Prop, (∀ H', Nx H' → ∃ m', m' < m ∧ W (i + 1) m' H') ∧ ∀ x H', (Itt K a).yld i H x H' → g x (wipe σ vs) H' fun σ2 H2 => wipe σ2 vs = wipe σ vs ∧ tYes σ2 H2 fun b H3 =>
        if b = true then te σ2 H3 fun y H4 => ∃ acc, H4 D = some (.lst acc) ∧ acc.length < sizeLine ∧ Nx (upd H4 D (.lst (acc ++ [y]))) else Nx H3) := by
  refine ⟨l, rfl, ⟨xs, h⟩, fun D nD => ?_⟩
  refine lc_tup (K := K) (a := l) (xs := xs) (fun i H' => i ≤ xs.length ∧ Same H H' ∧ H' D = some (.lst ((List.range i).map f))) ⟨Nat.zero_le _, same_new nD, upd_same⟩ (fun i H' _ p => hs _ p.2.1) (fun i x H' hx p => ?_) (fun H' p => q D H' p.2.1 nD p.2.2)
  have hi : i < xs.length := (List.getElem?_eq_some_iff.mp hx).1
  refine step i x H' _ _ hx p.2.1 fun H4 s4 => ?_
  have hD4 := s4 _ _ p.2.2
  refine ⟨_, hD4, ?_, hi, lc_inv nD (p.2.1.trans s4) hD4 _ rfl⟩
  rw [List.length_map, List.length_range]
  exact Nat.lt_of_lt_of_le (Nat.lt_of_lt_of_le hi hz) (by decide)
theorem lc_L (f : Nat → V) (htl : ∀ R : VK, R (.ref l) H → tl σ H R) (h : SqL K H l xs) (hz : xs.length ≤ 100000)
    (step : ∀ (i : Nat) (x : V) (H' : Hp) (R : VK) (S : Hp → Prop), xs[i]? = some x → Same H H' → (∀ H4, Same H' H4 → R (f i) H4) → g x (wipe σ vs) H' fun σ2 H2 => wipe σ2 vs = wipe σ vs ∧ tYes σ2 H2 fun b H3 => if b = true then te σ2 H3 R else S H3)
    (q : ∀ D H', Same H H' → H D = none → H' D = some (.lst ((List.range xs.length).map f)) → Q (.ref D) H') : tLc (iList K tl) g tYes te vs σ H Q := w_lc0L (htl _ (w_lcL f h hz step q))
theorem lc_T (f : Nat → V) (htl : ∀ R : VK, R (.ref l) H → tl σ H R) (h : SqT K H l xs) (hz : xs.length ≤ 100000) (hs : ∀ H', Same H H' → SqT K H' l xs)
    (step : ∀ (i : Nat) (x : V) (H' : Hp) (R : VK) (S : Hp → Prop), xs[i]? = some x → Same H H' → (∀ H4, Same H' H4 → R (f i) H4) → g x (wipe σ vs) H' fun σ2 H2 => wipe σ2 vs = wipe σ vs ∧ tYes σ2 H2 fun b H3 => if b = true then te σ2 H3 R else S H3)
    (q : ∀ D H', Same H H' → H D = none → H' D = some (.lst ((List.range xs.length).map f)) → Q (.ref D) H') : tLc (iTup K tl) g tYes te vs σ H Q := w_lc0T (htl _ (w_lcT f h hz hs step q))
theorem same_seqT {H H' : Hp} {a : Addr} {xs : List V} (e : Same H H') (h : SqT K H a xs) : SqT K H' a xs := by
  rcases h with (h | ⟨o, h⟩) | h
  · exact .inl (.inl (e _ _ h))
  · exact .inl (.inr ⟨o, e _ _ h⟩)
  · exact .inr h
end
theorem w_allTrue {K : PySem.W.Frag} {H : Hp} {Q : VK} {D : Addr} {n : Nat} (h : H D = some (.lst ((List.range n).map fun _ => V.bl true))) (q : Q (.bl true) H) : rAll K [.ref D] H Q := by
  refine ⟨D, (List.range n).map fun _ => true, rfl, SqL.of (by rw [List.map_map]; exact h), ?_⟩
  have e : ((List.range n).map fun _ => true).all id = true := by simp
  rw [e]
  exact q
/-! ### refusals -/
def spCore (K : PySem.W.Frag) : Sp := fun vs H Q _ => ∃ (x C : Addr) (v : V), vs = [.ref x, v] ∧ OexC K C ∧ PySem.W.findIn K (.ref C) "value" = some none ∧ H x = some (exo x C none) ∧
  ∀ dx, H dx = none → dx ≠ x → Q .non (upd (upd H dx (exd dx [("value", v)])) x (exo x C (some dx)))
theorem w_mko0 {C : Addr} {sp : Sp} {dvs : List V} {ta : TA} {σ : St} {H : Hp} {Q : XK} (q : ta σ H fun vs H1 => vs.length ≤ 1000 ∧ ∀ a, H1 a = none → sp (.ref a :: (vs ++ dvs)) (upd H1 a (exo a C none))
  (fun v H2 => v = .non ∧ ∃ (d : Addr) (fs : List (Str × V)), H2 a = some (exo a C (some d)) ∧ H2 d = some (exd d fs) ∧ H1 d = none ∧ Q (.ref C) (some d) (upd (del H2 a) d (.xd fs))) (fun _ _ _ => False)) : tMkO C sp dvs ta σ H Q := q
theorem w_core {K : PySem.W.Frag} {C : Addr} {v : V} {H : Hp} {Q : XK} (hC : OexC K C) (hn : PySem.W.findIn K (.ref C) "value" = some none)
    (q : ∀ d H', Same H H' → H d = none → H' d = some (.xd [("value", v)]) → Q (.ref C) (some d) H') :
    [v].length ≤ 1000 ∧ ∀ a, H a = none → spCore K (.ref a :: ([v] ++ [])) (upd H a (exo a C none))
      (fun v H2 => v = .non ∧ ∃ (d : Addr) (fs : List (Str × V)), H2 a = some (exo a C (some d)) ∧ H2 d = some (exd d fs) ∧ H d = none ∧ Q (.ref C) (some d) (upd (del H2 a) d (.xd fs))) (fun _ _ _ => False) := by
  refine ⟨by show 1 ≤ 1000; decide, fun x nx => ⟨x, C, v, rfl, hC, hn, upd_same, fun dx ndx hne => ⟨rfl, dx, _, upd_same, (upd_ne hne).trans upd_same, ?_, q dx _ ?_ ?_ upd_same⟩⟩⟩
  · rw [upd_ne hne] at ndx
    exact ndx
  · intro b o e
    have hb : b ≠ x := ne_of_none e nx
    have hd : b ≠ dx := by
      intro z
      rw [z] at e
      rw [upd_ne hne, e] at ndx
      cases ndx
    rw [upd_ne hd, del_ne hb, upd_ne hb, upd_ne hd, upd_ne hb]
    exact e
  · rw [upd_ne hne] at ndx
    exact ndx
theorem map_get {ns : List Int} {i : Nat} {x : V} (h : (ns.map V.int)[i]? = some x) : ∃ n, n ∈ ns ∧ x = .int n := by
  rw [List.getElem?_map] at h
  cases e : ns[i]? with
  | none => rw [e] at h; cases h
  | some n =>
    rw [e] at h
    exact ⟨n, List.mem_of_getElem? e, (Option.some.inj h).symm⟩
/-! ### loops -/
section
variable {K : PySem.W.Frag} {σ : L2.St} {H : Hp} {g : TG} {tb : TS} {nx bk ct : L2.St → Hp → Prop} {rt : VK} {ta : TA} {tl : TE}
def kR1 (g : TG) (tb : TS) (D : Ends) (σ : L2.St) (vs : List V) (H : Hp) : Prop := ∃ j : Int, vs = [.int j] ∧ -(2 ^ 62) ≤ j ∧ j < 2 ^ 62 ∧ ∃ W : Nat → Nat → L2.St → Hp → Prop, (∃ m, W 0 m σ H) ∧ ∀ i m σ H, W i m σ H →
  ((Itr 0 j.toNat).stop i H ∧ D.nx σ H) ∨ ((Itr 0 j.toNat).go i H ∧ ∃ N : L2.St → Hp → Prop, (∀ σ' H', N σ' H' → ∃ m', m' < m ∧ W (i + 1) m' σ' H') ∧ ∀ x H', (Itr 0 j.toNat).yld i H x H' → g x σ H' fun σ2 H2 => tb { D with nx := N, ct := N, bk := D.nx } σ2 H2)
theorem w_forR1 (q : ta σ H fun vs H1 => kR1 g tb ⟨nx, rt, bk, ct⟩ σ vs H1) : tFor (iRng1 ta) g tb ⟨nx, rt, bk, ct⟩ σ H := q
theorem w_range1 {j : Int} (Pv : Nat → L2.St → Hp → Prop) (hj : -100000000 ≤ j ∧ j < 100000000) (h0 : Pv 0 σ H)
    (hs : ∀ (i : Nat) σ' H', (i : Int) < j → Pv i σ' H' → g (.int i) σ' H' fun σ2 H2 => tb ⟨Pv (i + 1), rt, nx, Pv (i + 1)⟩ σ2 H2) (hd : ∀ σ' H', Pv j.toNat σ' H' → nx σ' H') : kR1 g tb ⟨nx, rt, bk, ct⟩ σ [.int j] H := by
  refine ⟨j, rfl, by omega, by omega, for_range (lo := 0) (n := j.toNat) (D := ⟨nx, rt, bk, ct⟩) Pv h0 (fun i σ' H' hi p => ?_) hd⟩
  have e : (0 : Int) + (i : Int) = i := by omega
  rw [e]
  exact hs i σ' H' (by omega) p
def kFL (K : PySem.W.Frag) (g : TG) (tb : TS) (D : Ends) (σ : L2.St) (x : V) (H : Hp) : Prop := ∃ a, x = .ref a ∧ (∃ xs, SqL K H a xs) ∧ ∃ W : Nat → Nat → L2.St → Hp → Prop, (∃ m, W 0 m σ H) ∧ ∀ i m σ H, W i m σ H →
  ((Itl K a).stop i H ∧ D.nx σ H) ∨ ((Itl K a).go i H ∧ ∃ N : L2.St → Hp → Prop, (∀ σ' H', N σ' H' → ∃ m', m' < m ∧ W (i + 1) m' σ' H') ∧ ∀ x H', (Itl K a).yld i H x H' → g x σ H' fun σ2 H2 => tb { D with nx := N, ct := N, bk := D.nx } σ2 H2)
theorem w_forL (q : tl σ H fun x H1 => kFL K g tb ⟨nx, rt, bk, ct⟩ σ x H1) : tFor (iList K tl) g tb ⟨nx, rt, bk, ct⟩ σ H := q
theorem w_list {a : Addr} {xs : List V} (Pv : Nat → L2.St → Hp → Prop) (h : SqL K H a xs) (h0 : Pv 0 σ H) (hl : ∀ i σ' H', i ≤ xs.length → Pv i σ' H' → SqL K H' a xs)
    (hs : ∀ (i : Nat) x σ' H', xs[i]? = some x → Pv i σ' H' → g x σ' H' fun σ2 H2 => tb ⟨Pv (i + 1), rt, nx, Pv (i + 1)⟩ σ2 H2) (hd : ∀ σ' H', Pv xs.length σ' H' → nx σ' H') : kFL K g tb ⟨nx, rt, bk, ct⟩ σ (.ref a) H :=
  ⟨a, rfl, ⟨xs, h⟩, for_list (D := ⟨nx, rt, bk, ct⟩) Pv h0 hl hs hd⟩
def kFT (K : PySem.W.Frag) (g : TG) (tb : TS) (D : Ends) (σ : L2.St) (x : V) (H : Hp) : Prop := ∃ a, x = .ref a ∧ (∃ xs, SqT K H a xs) ∧ ∃ W : Nat → Nat → L2.St → Hp → Prop, (∃ m, W 0 m σ H) ∧ ∀ i m σ H, W i m σ H →
  ((Itt K a).stop i H ∧ D.nx σ H) ∨ ((Itt K a).go i H ∧ ∃ N : L2.St → Hp → Prop, (∀ σ' H', N σ' H' → ∃ m', m' < m ∧ W (i + 1) m' σ' H') ∧ ∀ x H', (Itt K a).yld i H x H' → g x σ H' fun σ2 H2 => tb { D with nx := N, ct := N, bk := D.nx } σ2 H2)
theorem w_forT (q : tl σ H fun x H1 => kFT K g tb ⟨nx, rt, bk, ct⟩ σ x H1) : tFor (iTup K tl) g tb ⟨nx, rt, bk, ct⟩ σ H := q
theorem w_tupl {a : Addr} {xs : List V} (Pv : Nat → L2.St → Hp → Prop) (h : SqT K H a xs) (h0 : Pv 0 σ H) (hl : ∀ i σ' H', i ≤ xs.length → Pv i σ' H' → SqT K H' a xs)
    (hs : ∀ (i : Nat) x σ' H', xs[i]? = some x → Pv i σ' H' → g x σ' H' fun σ2 H2 => tb ⟨Pv (i + 1), rt, nx, Pv (i + 1)⟩ σ2 H2) (hd : ∀ σ' H', Pv xs.length σ' H' → nx σ' H') : kFT K g tb ⟨nx, rt, bk, ct⟩ σ (.ref a) H :=
  ⟨a, rfl, ⟨xs, h⟩, for_tup (D := ⟨nx, rt, bk, ct⟩) Pv h0 hl hs hd⟩
/-- a comprehension by an invariant over its turns -/
theorem lcI_L {Q : VK} {te : TE} {l : Addr} {xs : List V} {vs : List Nat} (Pv : Addr → Nat → Hp → Prop) (htl : ∀ R : VK, R (.ref l) H → tl σ H R) (h : SqL K H l xs) (h0 : ∀ D, H D = none → Pv D 0 (upd H D (.lst []))) (hl : ∀ D i H', i ≤ xs.length → Pv D i H' → SqL K H' l xs)
    (step : ∀ D (i : Nat) (x : V) (H' : Hp) (R : VK) (S : Hp → Prop), H D = none → xs[i]? = some x → Pv D i H' → (∀ y H4 acc, H4 D = some (.lst acc) → acc.length ≤ 100000 → Pv D (i + 1) (upd H4 D (.lst (acc ++ [y]))) → R y H4) → g x (wipe σ vs) H' fun σ2 H2 => wipe σ2 vs = wipe σ vs ∧ tYes σ2 H2 fun b H3 => if b = true then te σ2 H3 R else S H3)
    (q : ∀ D H', H D = none → Pv D xs.length H' → Q (.ref D) H') : tLc (iList K tl) g tYes te vs σ H Q := by
  refine w_lc0L (htl _ ⟨l, rfl, ⟨xs, h⟩, fun D nD => ?_⟩)
  refine lc_list (K := K) (a := l) (xs := xs) (fun i H' => Pv D i H') (h0 D nD) (fun i H' hi p => hl D i H' hi p) (fun i x H' hx p => ?_) (fun H' p => q D H' nD p)
  exact step D i x H' _ _ nD hx p fun y H4 acc e z p4 => ⟨acc, e, Nat.lt_of_le_of_lt z (by decide), p4⟩
end
section
variable {K : PySem.W.Frag} {σ : L2.St} {H H' G : Hp} {Q : VK} {to : TE} {t : TA} {p q x : Addr}
theorem w_bm {T : String} {r : V → List V → Hp → VK → Prop} (h : to σ H fun x H1 => tyV K T x H1 ∧ t σ H1 fun xs H2 => r x xs H2 Q) : tBM K T r to t σ H Q := h
theorem w_bm0 {T : String} {r : V → List V → Hp → VK → Prop} (h : to σ H fun x H1 => tyV K T x H1 ∧ r x [] H1 Q) : tBM0 K T r to σ H Q := h
theorem w_tyL {a : Addr} {xs : List V} {R : Prop} (h : SqL K H a xs) (q : R) : tyV K "list" (.ref a) H ∧ R := ⟨.inl ⟨rfl, xs, h⟩, q⟩
theorem w_app {l : Addr} {xs : List V} {y : V} (h : H l = some (.lst xs)) (hz : xs.length ≤ 100000) (q : Q .non (upd H l (.lst (xs ++ [y])))) : rAppend (.ref l) [y] H Q := ⟨l, xs, y, rfl, rfl, h, Nat.lt_of_le_of_lt hz (by decide), q⟩
theorem w_cat {l b : Addr} {xs zs : List V} (h1 : H l = some (.lst xs)) (h2 : H b = some (.lst zs)) (hz : xs.length + zs.length ≤ 100000) (q : ∀ p, H p = none → Q (.ref p) (upd H p (.lst (xs ++ zs)))) : rCat (.ref l) (.ref b) H Q := ⟨l, b, xs, zs, rfl, rfl, h1, h2, Nat.le_trans hz (by decide), q⟩
theorem ixN_of {n : Nat} {d : Int} (h0 : 0 ≤ d) (h1 : d < n) : ixN n d = some d.toNat := by
  unfold ixN
  rw [if_pos h0, if_pos h1]
theorem nodup_ne {α : Type} {l : List α} (nd : l.Nodup) {i j : Nat} {a b : α} (hi : l[i]? = some a) (hj : l[j]? = some b) (h : i ≠ j) : a ≠ b := by
  obtain ⟨h1, rfl⟩ := List.getElem?_eq_some_iff.mp hi
  obtain ⟨h2, rfl⟩ := List.getElem?_eq_some_iff.mp hj
  have z := List.pairwise_iff_getElem.mp nd
  rcases Nat.lt_or_gt_of_ne h with q | q
  · exact z i j h1 h2 q
  · exact (z j i h2 h1 q).symm
/-- G: what is never changed; it stays through a change at p, if p is none of it -/
theorem sub_chg (s : Same G H) (n : G p = none) (c : Chg p H H') : Same G H' := fun b o e => c b o (s b o e) (ne_of_none e n)
theorem sub_upd {o : HO} (s : Same G H) (n : G p = none) : Same G (upd H p o) := fun b u e => by
  rw [upd_ne (ne_of_none e n)]
  exact s b u e
/-- G grows by what stands in H -/
theorem sub_grow {o : HO} (s : Same G H) (h : H p = some o) : Same (upd G p o) H := fun b u e => by
  by_cases z : b = p
  · subst z
    rw [upd_same] at e
    rw [← e]
    exact h
  · rw [upd_ne z] at e
    exact s b u e
theorem same_grow {o : HO} (n : G p = none) : Same G (upd G p o) := same_new n
theorem none_upd {o : HO} (h : G q = none) (n : q ≠ p) : upd G p o q = none := by rw [upd_ne n]; exact h
/-- G: H without the places of bs -/
def cutH (H : Hp) (bs : List Addr) : Hp := fun b => if b ∈ bs then none else H b
theorem cut_none {bs : List Addr} (h : p ∈ bs) : cutH H bs p = none := if_pos h
theorem cut_some {bs : List Addr} (h : p ∉ bs) : cutH H bs p = H p := if_neg h
theorem cut_same {bs : List Addr} : Same (cutH H bs) H := fun b o e => by
  by_cases h : b ∈ bs
  · rw [cut_none h] at e; cases e
  · rw [cut_some h] at e; exact e
end
section
variable {K : PySem.W.Frag} {σ : L2.St} {H : Hp} {Q : VK} {ta tb tc te : TE} {tl th : TO} {xs : List V}
theorem w_chain {r r' : R2} (q : ta σ H fun x H1 => tb σ H1 fun y H2 => r x y H2 fun z H3 => ∃ k, z = .bl k ∧ (if k = true then tc σ H3 fun w' H4 => r' y w' H4 Q else Q (.bl false) H3)) : tChain r r' ta tb tc σ H Q := q
theorem w_sl {r : V → Option Int → Option Int → Hp → VK → Prop} (q : te σ H fun x H1 => tl σ H1 fun l H2 => th σ H2 fun u H3 => r x l u H3 Q) : tSl r te tl th σ H Q := q
theorem w_nopart {Q : Option Int → Hp → Prop} (q : Q none H) : tNoPart σ H Q := q
theorem w_part {Q : Option Int → Hp → Prop} (q : te σ H fun x H1 => ∃ i, x = .int i ∧ Q (some i) H1) : tPart te σ H Q := q
theorem w_ei {i : Int} {R : Int → Prop} (q : R i) : ∃ k, V.int i = .int k ∧ R k := ⟨i, rfl, q⟩
theorem w_slL {a : Addr} {lo hi : Option Int} (h : SqL K H a xs) (q : ∀ p, H p = none → Q (.ref p) (upd H p (.lst (cutV xs lo hi)))) : rSlL K (.ref a) lo hi H Q := ⟨a, xs, rfl, h, q⟩
def kRev (K : PySem.W.Frag) (Q : VK) (x : V) (H : Hp) : Prop := ∃ a xs, x = .ref a ∧ SqL K H a xs ∧ ∀ p, H p = none → Q (.ref p) (upd H p (.lst xs.reverse))
theorem w_rev0 (q : te σ H fun x H1 => kRev K Q x H1) : tRevL K te σ H Q := q
theorem w_rev {a : Addr} (h : SqL K H a xs) (q : ∀ p, H p = none → Q (.ref p) (upd H p (.lst xs.reverse))) : kRev K Q (.ref a) H := ⟨a, xs, rfl, h, q⟩
theorem w_rep {a : Addr} {k : Int} (h : H a = some (.lst xs)) (h1 : -100000 ≤ k) (h2 : k ≤ 100000) (hz : xs.length ≤ 100) (q : ∀ p, H p = none → Q (.ref p) (upd H p (.lst (List.replicate k.toNat xs).flatten))) : rRep (.ref a) (.int k) H Q :=
  ⟨a, k, xs, rfl, rfl, h, by omega, by omega, by
    have e : xs.length * k.toNat ≤ 100 * 100000 := Nat.mul_le_mul hz (by omega)
    exact Nat.le_trans e (by decide), q⟩
theorem sIx_int (n d : Nat) (i : Int) (h : 0 ≤ i) : HT.sIx n d (some i) = min i.toNat n := by
  obtain ⟨k, rfl⟩ : ∃ k : Nat, i = (k : Int) := ⟨i.toNat, by omega⟩
  rw [HT.sIx_nat]
  simp
theorem cut_to {j : Int} (h : 0 ≤ j) : cutV xs none (some j) = xs.take j.toNat := by
  unfold cutV
  rw [HT.sIx_none, sIx_int _ _ _ h]
  by_cases q : j.toNat ≤ xs.length
  · rw [Nat.min_eq_left q]; simp
  · rw [Nat.min_eq_right (by omega), List.take_of_length_le (by omega : xs.length ≤ j.toNat)]; simp
theorem cut_from {i : Int} (h : 0 ≤ i) : cutV xs (some i) none = xs.drop i.toNat := by
  unfold cutV
  rw [HT.sIx_none, sIx_int _ _ _ h]
  by_cases q : i.toNat ≤ xs.length
  · rw [Nat.min_eq_left q, List.take_of_length_le (by rw [List.length_drop]; omega)]
  · rw [Nat.min_eq_right (by omega)]
    simp [List.drop_eq_nil_of_le (by omega : xs.length ≤ i.toNat)]
theorem cut_mid {i j : Int} (h : 0 ≤ i) (hj : i ≤ j) : cutV xs (some i) (some j) = (xs.drop i.toNat).take (j.toNat - i.toNat) := by
  unfold cutV
  rw [sIx_int _ _ _ h, sIx_int _ _ _ (by omega)]
  by_cases q : i.toNat ≤ xs.length
  · rw [Nat.min_eq_left q]
    by_cases q2 : j.toNat ≤ xs.length
    · rw [Nat.min_eq_left q2]
    · rw [Nat.min_eq_right (by omega), List.take_of_length_le (by rw [List.length_drop]; omega), List.take_of_length_le (by rw [List.length_drop]; omega)]
  · rw [Nat.min_eq_right (by omega)]
    simp [List.drop_eq_nil_of_le (by omega : xs.length ≤ i.toNat)]
    exact .inr (by omega)
end
/-! ### refusals told -/
theorem w_only {K : PySem.W.Frag} {c : Value} {ts : Addr → Value → Option Addr → TS} {Wout : WX} {D : Ends} {σ : L2.St} {H : Hp} {cls : Value} {d : Option Addr} (h : PySem.W.exmOne K cls c = some true) (q : ∀ a, H a = none → ts a cls d D σ H) : wOnly K c ts Wout D cls d σ H :=
  ⟨true, h, fun _ => q, fun z => by cases z⟩
/-! ### lists of pairs of ints, compared -/
def pairD (q : Int × Int) : PyData := .tuple [.int q.1, .int q.2]
theorem pairs_lay : ∀ ps : List (Int × Int), PyData.canLayAll0 (ps.map pairD) = true
  | [] => rfl
  | q :: ps => by
    rw [List.map_cons]
    simp only [PyData.canLayAll0, pairs_lay ps, pairD, PyData.canLay0, Bool.and_self]
theorem pairs_depth : ∀ ps : List (Int × Int), PyData.depthAll (ps.map pairD) ≤ 3
  | [] => by simp [PyData.depthAll]
  | q :: ps => by
    have h := pairs_depth ps
    rw [List.map_cons]
    simp only [PyData.depthAll, pairD, PyData.depth] at h ⊢
    omega
theorem pairs_shaped (ps : List (Int × Int)) : SeqAt.shaped (.list (ps.map pairD)) = true := by
  unfold SeqAt.shaped
  have h := pairs_depth ps
  rw [Bool.and_eq_true]
  refine ⟨by rw [PyData.canLay0]; exact pairs_lay ps, decide_eq_true ?_⟩
  simp only [PyData.depth]
  omega
theorem pairs_eqv (ps : List (Int × Int)) : PyData.eqv (.list (ps.map pairD)) (.list (ps.map pairD)) = true := SeqAt.eqv_refl _ (by rw [PyData.canLay0]; exact pairs_lay ps)
theorem pairs_dp {K : PySem.W.Frag} {H : Hp} : ∀ {rs : List Addr} {ps : List (Int × Int)}, rs.length = ps.length → (∀ (i : Nat) (r : Addr) (m f : Int), rs[i]? = some r → ps[i]? = some (m, f) → H r = some (.tup [.int m, .int f])) → DpAll K H (rs.map V.ref) (ps.map pairD)
  | [], [], _, _ => .nil
  | [], _ :: _, h, _ => by cases h
  | _ :: _, [], h, _ => by cases h
  | r :: rs, (m, f) :: ps, h, k => by
    rw [List.map_cons, List.map_cons]
    exact .cons (.tup (SqT.of (k 0 r m f rfl rfl)) (.cons (.int m) (.cons (.int f) .nil))) (pairs_dp (Nat.succ.inj h) fun i r m f a b => k (i + 1) r m f a b)
theorem w_neD {K : PySem.W.Frag} {H : Hp} {Q : VK} {x y : V} (d : PyData) (h1 : Dp K H x d) (h2 : Dp K H y d) (hs : SeqAt.shaped d = true) (he : PyData.eqv d d = true) (q : Q (.bl false) H) : rNeD K x y H Q := ⟨d, d, h1, h2, hs, hs, by rw [he]; exact q⟩
theorem w_eqD {K : PySem.W.Frag} {H : Hp} {Q : VK} {x y : V} (d : PyData) (h1 : Dp K H x d) (h2 : Dp K H y d) (hs : SeqAt.shaped d = true) (he : PyData.eqv d d = true) (q : Q (.bl true) H) : rEqD K x y H Q := ⟨d, d, h1, h2, hs, hs, by rw [he]; exact q⟩
/-! ### 1. What values are -/
def isI : V → Bool
  | .int _ => true
  | _ => false
def cnt : V → Bool
  | .int n => decide (0 ≤ n)
  | _ => false
/-- its type is known, and says whether it is an int that is no bool -/
def KInt (K : PySem.W.Frag) (H : Hp) (v : V) (b : Bool) : Prop := ∃ (t : Value) (b1 b2 : Bool), TyX K H v t ∧ PySem.W.kitOne K t (.type "int") = some b1 ∧ (b1 = true → PySem.W.kitOne K t (.type "bool") = some b2) ∧ b = (b1 && !b2)
theorem kint_int {K : PySem.W.Frag} {H : Hp} (n : Int) : KInt K H (.int n) true :=
  ⟨.type "int", true, false, .base (.int n), kit_ty (by decide +kernel), fun _ => kit_ty (by decide +kernel), rfl⟩
def spInt (K : PySem.W.Frag) : Sp := fun vs H Q _ => ∃ (v : V) (b : Bool), vs = [v] ∧ KInt K H v b ∧ Q (.bl b) H
def spCount (K : PySem.W.Frag) : Sp := fun vs H Q _ => ∃ (v : V), vs = [v] ∧ KInt K H v (isI v) ∧ Q (.bl (cnt v)) H
def spList (K : PySem.W.Frag) : Sp := fun vs H Q _ => ∃ (v : V) (t : Value) (b : Bool), vs = [v] ∧ TyX K H v t ∧ PySem.W.kitAny K t [.type "list", .type "tuple"] = some b ∧ ∀ H', Same H H' → Q (.bl b) H'
/-- a pot: two numbers that are not negative, the second one small -/
def Pot (H : Hp) (p : Addr) : Prop := ∃ x y : Int, H p = some (.lst [.int x, .int y]) ∧ 0 ≤ x ∧ 0 ≤ y ∧ y < 4294967296
def spPot (K : PySem.W.Frag) : Sp := fun vs H Q _ => ∃ (s : Addr) (ns : List Int) (k : Int), vs = [.ref s, .int k] ∧ SqL K H s (ns.map V.int) ∧ 0 ≤ k ∧ k ≤ 1000 ∧
  ∀ p H', Same H H' → H p = none → Pot H' p → Q (.ref p) H'
def spDraw : Sp := fun vs H Q _ => ∃ (p : Addr) (n : Int), vs = [.ref p, .int n] ∧ Pot H p ∧ 0 < n ∧ n < 1000000000 ∧
  ∀ d H', Chg p H H' → Pot H' p → 0 ≤ d → d < n → Q (.int d) H'
def spPick (K : PySem.W.Frag) : Sp := fun vs H Q _ => ∃ (p s : Addr) (xs : List V), vs = [.ref p, .ref s] ∧ Pot H p ∧ SqL K H s xs ∧ s ≠ p ∧ (∀ H', Chg p H H' → SqL K H' s xs) ∧ 0 < xs.length ∧ xs.length < 1000000000 ∧
  ∀ v H', Chg p H H' → Pot H' p → v ∈ xs → Q v H'
theorem Pot.same {H H' : Hp} {p : Addr} (s : Same H H') : Pot H p → Pot H' p := fun ⟨x, y, h, r⟩ => ⟨x, y, s _ _ h, r⟩
theorem Pot.chg {H H' : Hp} {p q : Addr} (s : Chg q H H') (n : p ≠ q) : Pot H p → Pot H' p := fun ⟨x, y, h, r⟩ => ⟨x, y, s _ _ h n, r⟩
theorem Pot.upd {H : Hp} {p q : Addr} {o : HO} (n : p ≠ q) : Pot H p → Pot (L2.upd H q o) p := fun ⟨x, y, h, r⟩ => ⟨x, y, (upd_ne n).trans h, r⟩
theorem Pot.new {H : Hp} {p q : Addr} {o : HO} (n : H q = none) : Pot H p → Pot (L2.upd H q o) p := Pot.same (same_new n)
theorem Pot.ne {H : Hp} {p q : Addr} (n : H q = none) : Pot H p → p ≠ q := fun ⟨x, y, h, r⟩ => ne_of_none h n
theorem Pot.ntup {H : Hp} {p : Addr} : Pot H p → ∀ xs, H p ≠ some (.tup xs) := fun ⟨x, y, h, _⟩ xs z => by rw [h] at z; cases z
def due (ns : List Int) (i : Nat) (m : Int) : Int := if i < ns.length then ns.getD i 0 % m else 0
def spDue (K : PySem.W.Frag) : Sp := fun vs H Q _ => ∃ (s : Addr) (ns : List Int) (i : Nat) (m : Int), vs = [.ref s, .int i, .int m] ∧ SqL K H s (ns.map V.int) ∧ 0 < m ∧ Q (.int (due ns i m)) H
/-! ### 2. Whims -/
def fW (t : Addr) (n : Int) : List (Str × V) := [("own_numbers", V.ref t), ("own_taken", V.int n)]
/-- a Whims of the numbers ns stands at w, n were taken -/
def WhAt (C : Addr) (H : Hp) (w : Addr) (ns : List Int) (n : Nat) : Prop := ∃ dx t, H w = some (.ins C dx (fW t n)) ∧ H t = some (.tup (ns.map V.int))
def NumsOk (ns : List Int) : Prop := ns.length ≤ 200 ∧ ∀ n ∈ ns, 0 ≤ n ∧ n ≤ 1000000
def spWInit (C : Addr) : Sp := fun vs H Q _ => ∃ (x dx l : Addr) (ns : List Int), vs = [.ref x, .ref l] ∧ H x = some (.ins C dx []) ∧ (H l = some (.lst (ns.map V.int)) ∨ H l = some (.tup (ns.map V.int))) ∧ NumsOk ns ∧
  ∀ H', Chg x H H' → WhAt C H' x ns 0 → Q .non H'
def spWTaken (C : Addr) : Sp := fun vs H Q _ => ∃ (x : Addr) (ns : List Int) (n : Nat), vs = [.ref x] ∧ WhAt C H x ns n ∧ Q (.int n) H
def spWTake (K : PySem.W.Frag) (C D : Addr) : Sp := fun vs H Q E => ∃ (x : Addr) (ns : List Int) (n : Nat) (m : Int), vs = [.ref x, .int m] ∧ WhAt C H x ns n ∧ (0 < m → ∀ H', Chg x H H' → WhAt C H' x ns (n + 1) → Q (.int (due ns n m)) H') ∧
  (¬ 0 < m → ∀ d H', Same H H' → H d = none → H' d = some (.xd [("value", .int m)]) → E (.ref D) (some d) H')
def spWCopy (C : Addr) : Sp := fun vs H Q _ => ∃ (x : Addr) (ns : List Int) (n : Nat), vs = [.ref x] ∧ WhAt C H x ns n ∧ NumsOk ns ∧ ∀ y H', Same H H' → H y = none → WhAt C H' y ns n → Q (.ref y) H'
theorem WhAt.same {C : Addr} {H H' : Hp} {w : Addr} {ns : List Int} {n : Nat} (s : Same H H') : WhAt C H w ns n → WhAt C H' w ns n := fun ⟨dx, t, h1, h2⟩ => ⟨dx, t, s _ _ h1, s _ _ h2⟩
theorem WhAt.chg {C x : Addr} {H H' : Hp} {w : Addr} {ns : List Int} {n : Nat} (c : Chg x H H') (h : w ≠ x) (hx : ∀ xs, H x ≠ some (.tup xs)) : WhAt C H w ns n → WhAt C H' w ns n := fun ⟨dx, t, h1, h2⟩ =>
  ⟨dx, t, c _ _ h1 h, c _ _ h2 (fun z => hx _ (by rw [← z]; exact h2))⟩
theorem WhAt.ne_pot {C : Addr} {H : Hp} {w p : Addr} {ns : List Int} {n : Nat} : WhAt C H w ns n → Pot H p → w ≠ p := fun ⟨dx, t, h1, _⟩ ⟨x, y, h2, _⟩ => ne_of h1 h2 (by intro z; cases z)
theorem WhAt.updL {C : Addr} {H : Hp} {w x : Addr} {ns : List Int} {n : Nat} {xs : List V} {o : HO} (z : WhAt C H w ns n) (h : H x = some (.lst xs)) : WhAt C (L2.upd H x o) w ns n := by
  obtain ⟨dx, t, h1, h2⟩ := z
  exact ⟨dx, t, (upd_ne (ne_of h1 h (by intro z; cases z))).trans h1, (upd_ne (ne_of h2 h (by intro z; cases z))).trans h2⟩
/-! ### bits, the lowest first -/
def bitsL : Nat → Int → List Int
  | 0, _ => []
  | n + 1, x => x % 2 :: bitsL n (x / 2)
def ofL : List Int → Int
  | [] => 0
  | b :: r => b + 2 * ofL r
def addL : List Int → List Int → Int → List Int
  | p :: a, q :: b, c => (p + q + c) % 2 :: addL a b ((p + q + c) / 2)
  | _, _, _ => []
theorem bitsL_len (n : Nat) : ∀ x, (bitsL n x).length = n := by
  induction n with
  | zero => intro x; rfl
  | succ n ih => intro x; simp [bitsL, ih]
theorem mod_two_mul (t u M : Int) (hM : 0 < M) : (t + 2 * u) % (2 * M) = t % 2 + 2 * ((t / 2 + u) % M) := by
  have h1 := Int.emod_add_mul_ediv (t / 2 + u) M
  have h2 := Int.emod_nonneg (t / 2 + u) (show M ≠ 0 by omega)
  have h3 := Int.emod_lt_of_pos (t / 2 + u) hM
  have e : t + 2 * u = (t % 2 + 2 * ((t / 2 + u) % M)) + (2 * M) * ((t / 2 + u) / M) := by
    have h4 : 2 * (t / 2 + u) = 2 * ((t / 2 + u) % M) + (2 * M) * ((t / 2 + u) / M) := by
      rw [Int.mul_assoc, ← Int.mul_add, h1]
    omega
  rw [e, Int.add_mul_emod_self_left]
  exact Int.emod_eq_of_lt (by omega) (by omega)
theorem pow_pos2 (n : Nat) : (0 : Int) < 2 ^ n := Int.pow_pos (by decide)
theorem of_bits (n : Nat) : ∀ x, ofL (bitsL n x) = x % 2 ^ n := by
  induction n with
  | zero => intro x; simp [bitsL, ofL, Int.emod_one]
  | succ n ih =>
    intro x
    show x % 2 + 2 * ofL (bitsL n (x / 2)) = _
    rw [ih, Int.pow_succ', show x = x + 2 * 0 by omega, mod_two_mul _ _ _ (pow_pos2 n)]
    simp
theorem of_add : ∀ (a b : List Int) (c : Int), a.length = b.length → ofL (addL a b c) = (ofL a + ofL b + c) % 2 ^ a.length
  | [], [], c, _ => by simp [addL, ofL, Int.emod_one]
  | p :: a, q :: b, c, h => by
    have ih := of_add a b ((p + q + c) / 2) (by simpa using h)
    show (p + q + c) % 2 + 2 * ofL (addL a b ((p + q + c) / 2)) = (p + 2 * ofL a + (q + 2 * ofL b) + c) % 2 ^ (a.length + 1)
    rw [ih, Int.pow_succ', show p + 2 * ofL a + (q + 2 * ofL b) + c = (p + q + c) + 2 * (ofL a + ofL b) by omega, mod_two_mul _ _ _ (pow_pos2 _)]
    congr 3
    omega
theorem add_len : ∀ (a b : List Int) (c : Int), a.length = b.length → (addL a b c).length = a.length
  | [], [], _, _ => rfl
  | p :: a, q :: b, c, h => by
    show (addL a b _).length + 1 = a.length + 1
    rw [add_len a b _ (by simpa using h)]
theorem of_app : ∀ (a b : List Int), ofL (a ++ b) = ofL a + 2 ^ a.length * ofL b
  | [], b => by simp [ofL]
  | p :: a, b => by
    show p + 2 * ofL (a ++ b) = p + 2 * ofL a + 2 ^ (a.length + 1) * ofL b
    rw [of_app a b, Int.pow_succ', Int.mul_assoc]
    omega
theorem bits_take : ∀ (n k : Nat) (x : Int), (bitsL n x).take k = bitsL (min k n) x
  | 0, k, x => by simp [bitsL]
  | n + 1, 0, x => by simp [bitsL]
  | n + 1, k + 1, x => by
    rw [show min (k + 1) (n + 1) = min k n + 1 by omega]
    simp [bitsL, bits_take n k]
theorem bits_drop : ∀ (n k : Nat) (x : Int), (bitsL n x).drop k = bitsL (n - k) (x / 2 ^ k)
  | 0, k, x => by simp [bitsL]
  | n + 1, 0, x => by simp
  | n + 1, k + 1, x => by
    rw [show n + 1 - (k + 1) = n - k by omega, Int.pow_succ', ← Int.ediv_ediv_of_nonneg (by decide)]
    simp [bitsL, bits_drop n k]
theorem bits_mem : ∀ (n : Nat) (x b : Int), b ∈ bitsL n x → b = 0 ∨ b = 1
  | 0, x, b, h => by cases h
  | n + 1, x, b, h => by
    rcases List.mem_cons.mp h with h | h
    · omega
    · exact bits_mem n _ b h
theorem of_rep (k : Nat) : ofL (List.replicate k 0) = 0 := by
  induction k with
  | zero => rfl
  | succ k ih => simp [List.replicate_succ, ofL, ih]
/-- both, either, unlike -/
theorem of_and (n : Nat) : ∀ (x y : Nat), x < 2 ^ n → y < 2 ^ n → ofL (List.zipWith (fun p q => p * q) (bitsL n x) (bitsL n y)) = ((x &&& y : Nat) : Int) := by
  induction n with
  | zero =>
    intro x y hx hy
    have e : x = 0 := by simpa using hx
    have e' : y = 0 := by simpa using hy
    subst e e'
    simp [bitsL, ofL]
  | succ n ih =>
    intro x y hx hy
    have h := ih (x / 2) (y / 2) (by rw [Nat.pow_succ] at hx; omega) (by rw [Nat.pow_succ] at hy; omega)
    show (fun p q : Int => p * q) ((x : Int) % 2) ((y : Int) % 2) + 2 * ofL (List.zipWith _ (bitsL n ((x : Int) / 2)) (bitsL n ((y : Int) / 2))) = _
    rw [show (x : Int) / 2 = ((x / 2 : Nat) : Int) by omega, show (y : Int) / 2 = ((y / 2 : Nat) : Int) by omega, h]
    have e1 : (x &&& y) / 2 = x / 2 &&& y / 2 := Nat.and_div_two
    have e2 : (x &&& y) % 2 = (x % 2) &&& (y % 2) := Nat.and_mod_two_pow (n := 1)
    rw [← e1]
    have q1 : x % 2 = 0 ∨ x % 2 = 1 := by omega
    have q2 : y % 2 = 0 ∨ y % 2 = 1 := by omega
    have q3 : (x : Int) % 2 = ((x % 2 : Nat) : Int) := by omega
    have q4 : (y : Int) % 2 = ((y % 2 : Nat) : Int) := by omega
    show (fun p q : Int => p * q) ((x : Int) % 2) ((y : Int) % 2) + _ = _
    rw [q3, q4]
    rcases q1 with q1 | q1 <;> rcases q2 with q2 | q2 <;> (rw [q1, q2] at e2 ⊢; generalize x &&& y = z at e2 ⊢; simp at e2 ⊢; omega)
theorem of_or (n : Nat) : ∀ (x y : Nat), x < 2 ^ n → y < 2 ^ n → ofL (List.zipWith (fun p q => if q > p then q else p) (bitsL n x) (bitsL n y)) = ((x ||| y : Nat) : Int) := by
  induction n with
  | zero =>
    intro x y hx hy
    have e : x = 0 := by simpa using hx
    have e' : y = 0 := by simpa using hy
    subst e e'
    simp [bitsL, ofL]
  | succ n ih =>
    intro x y hx hy
    have h := ih (x / 2) (y / 2) (by rw [Nat.pow_succ] at hx; omega) (by rw [Nat.pow_succ] at hy; omega)
    show (fun p q : Int => if q > p then q else p) ((x : Int) % 2) ((y : Int) % 2) + 2 * ofL (List.zipWith _ (bitsL n ((x : Int) / 2)) (bitsL n ((y : Int) / 2))) = _
    rw [show (x : Int) / 2 = ((x / 2 : Nat) : Int) by omega, show (y : Int) / 2 = ((y / 2 : Nat) : Int) by omega, h]
    have e1 : (x ||| y) / 2 = x / 2 ||| y / 2 := Nat.or_div_two
    have e2 : (x ||| y) % 2 = (x % 2) ||| (y % 2) := Nat.or_mod_two_pow (n := 1)
    rw [← e1]
    have q1 : x % 2 = 0 ∨ x % 2 = 1 := by omega
    have q2 : y % 2 = 0 ∨ y % 2 = 1 := by omega
    have q3 : (x : Int) % 2 = ((x % 2 : Nat) : Int) := by omega
    have q4 : (y : Int) % 2 = ((y % 2 : Nat) : Int) := by omega
    show (fun p q : Int => if q > p then q else p) ((x : Int) % 2) ((y : Int) % 2) + _ = _
    rw [q3, q4]
    rcases q1 with q1 | q1 <;> rcases q2 with q2 | q2 <;> (rw [q1, q2] at e2 ⊢; generalize x ||| y = z at e2 ⊢; simp at e2 ⊢; omega)
theorem of_xor (n : Nat) : ∀ (x y : Nat), x < 2 ^ n → y < 2 ^ n → ofL (List.zipWith (fun p q => if p - q < 0 then -(p - q) else p - q) (bitsL n x) (bitsL n y)) = ((x ^^^ y : Nat) : Int) := by
  induction n with
  | zero =>
    intro x y hx hy
    have e : x = 0 := by simpa using hx
    have e' : y = 0 := by simpa using hy
    subst e e'
    simp [bitsL, ofL]
  | succ n ih =>
    intro x y hx hy
    have h := ih (x / 2) (y / 2) (by rw [Nat.pow_succ] at hx; omega) (by rw [Nat.pow_succ] at hy; omega)
    show (fun p q : Int => if p - q < 0 then -(p - q) else p - q) ((x : Int) % 2) ((y : Int) % 2) + 2 * ofL (List.zipWith _ (bitsL n ((x : Int) / 2)) (bitsL n ((y : Int) / 2))) = _
    rw [show (x : Int) / 2 = ((x / 2 : Nat) : Int) by omega, show (y : Int) / 2 = ((y / 2 : Nat) : Int) by omega, h]
    have e1 : (x ^^^ y) / 2 = x / 2 ^^^ y / 2 := Nat.xor_div_two
    have e2 : (x ^^^ y) % 2 = (x % 2) ^^^ (y % 2) := Nat.xor_mod_two_pow (n := 1)
    rw [← e1]
    have q1 : x % 2 = 0 ∨ x % 2 = 1 := by omega
    have q2 : y % 2 = 0 ∨ y % 2 = 1 := by omega
    have q3 : (x : Int) % 2 = ((x % 2 : Nat) : Int) := by omega
    have q4 : (y : Int) % 2 = ((y % 2 : Nat) : Int) := by omega
    show (fun p q : Int => if p - q < 0 then -(p - q) else p - q) ((x : Int) % 2) ((y : Int) % 2) + _ = _
    rw [q3, q4]
    rcases q1 with q1 | q1 <;> rcases q2 with q2 | q2 <;> (rw [q1, q2] at e2 ⊢; generalize x ^^^ y = z at e2 ⊢; simp at e2 ⊢; omega)
/-! ### times: the rows of the one word, added where the other has a bit -/
theorem pow_split (y : Int) (i : Nat) : y % 2 ^ (i + 1) = y % 2 ^ i + 2 ^ i * (y / 2 ^ i % 2) := by
  have h1 := Int.emod_add_mul_ediv y (2 ^ i)
  have h2 := Int.emod_add_mul_ediv (y / 2 ^ i) 2
  have h3 := Int.emod_nonneg y (show (2 : Int) ^ i ≠ 0 from (by have := pow_pos2 i; omega))
  have h4 := Int.emod_lt_of_pos y (pow_pos2 i)
  have h5 : y / 2 ^ i % 2 = 0 ∨ y / 2 ^ i % 2 = 1 := by omega
  have hp := pow_pos2 i
  have e : y = (y % 2 ^ i + 2 ^ i * (y / 2 ^ i % 2)) + 2 ^ (i + 1) * (y / 2 ^ i / 2) := by
    rw [Int.pow_succ, Int.mul_assoc, Int.add_assoc, ← Int.mul_add, h2, h1]
  conv => lhs; rw [e]
  rw [Int.add_mul_emod_self_left]
  refine Int.emod_eq_of_lt ?_ ?_
  · rcases h5 with h | h <;> rw [h] <;> omega
  · rw [Int.pow_succ]
    rcases h5 with h | h <;> rw [h] <;> omega
theorem nat_and_put (x lo m : Nat) : x &&& ((2 ^ m - 1) * 2 ^ lo) = 2 ^ lo * ((x / 2 ^ lo) % 2 ^ m) := by
  refine Nat.eq_of_testBit_eq fun i => ?_
  rw [Nat.testBit_and, Nat.testBit_mul_two_pow, Nat.testBit_two_pow_mul, Nat.testBit_mod_two_pow, Nat.testBit_div_two_pow, Nat.testBit_two_pow_sub_one]
  by_cases h : lo ≤ i
  · simp [h, Nat.sub_add_cancel h, Nat.add_sub_cancel' h]
    cases x.testBit i <;> simp
  · simp [h]
theorem nat_put (x lo m v : Nat) (hv : v < 2 ^ m) : (x - (x &&& ((2 ^ m - 1) * 2 ^ lo))) ||| (v * 2 ^ lo) = x % 2 ^ lo + 2 ^ lo * v + 2 ^ (lo + m) * (x / 2 ^ (lo + m)) := by
  have h1 := Nat.div_add_mod x (2 ^ lo)
  have h2 := Nat.div_add_mod (x / 2 ^ lo) (2 ^ m)
  have hl : x % 2 ^ lo < 2 ^ lo := Nat.mod_lt _ (Nat.two_pow_pos _)
  have e1 : x - (x &&& ((2 ^ m - 1) * 2 ^ lo)) = 2 ^ lo * (2 ^ m * (x / 2 ^ lo / 2 ^ m)) + x % 2 ^ lo := by
    rw [nat_and_put]
    have e : 2 ^ lo * (x / 2 ^ lo) = 2 ^ lo * (2 ^ m * (x / 2 ^ lo / 2 ^ m)) + 2 ^ lo * (x / 2 ^ lo % 2 ^ m) := by
      rw [← Nat.mul_add, h2]
    omega
  have e2 : (2 ^ lo * (2 ^ m * (x / 2 ^ lo / 2 ^ m)) + x % 2 ^ lo) ||| (v * 2 ^ lo) = 2 ^ lo * ((2 ^ m * (x / 2 ^ lo / 2 ^ m)) ||| v) + x % 2 ^ lo := by
    refine Nat.eq_of_testBit_eq fun i => ?_
    rw [Nat.testBit_or, Nat.testBit_two_pow_mul_add _ hl, Nat.testBit_two_pow_mul_add _ hl, Nat.testBit_mul_two_pow]
    by_cases h : i < lo
    · simp [h, Nat.not_le.mpr h]
    · simp [h, Nat.not_lt.mp h]
  rw [e1, e2, ← Nat.two_pow_add_eq_or_of_lt hv, Nat.mul_add, Nat.pow_add, Nat.div_div_eq_div_mul, Nat.mul_assoc]
  omega
theorem int_put {x lo m v : Int} (hx : 0 ≤ x) (h0 : 0 ≤ lo) (h1 : 0 ≤ m) (hv : 0 ≤ v) (hv2 : v < 2 ^ m.toNat) :
    Builtin.bitOr (Builtin.bitAnd x (Builtin.bitNot ((1 * 2 ^ m.toNat - 1) * 2 ^ lo.toNat))) (v * 2 ^ lo.toNat) = x % 2 ^ lo.toNat + 2 ^ lo.toNat * v + 2 ^ (lo.toNat + m.toNat) * (x / 2 ^ (lo.toNat + m.toNat)) := by
  obtain ⟨x, rfl⟩ := Int.eq_ofNat_of_zero_le hx
  obtain ⟨v, rfl⟩ := Int.eq_ofNat_of_zero_le hv
  generalize lo.toNat = lo
  generalize m.toNat = m at hv2 ⊢
  have hv3 : v < 2 ^ m := by exact_mod_cast hv2
  have hp : 1 ≤ 2 ^ m := Nat.two_pow_pos m
  have eM : ((1 : Int) * 2 ^ m - 1) * 2 ^ lo = (((2 ^ m - 1) * 2 ^ lo : Nat) : Int) := by
    rw [Int.one_mul, Int.natCast_mul, Int.natCast_sub hp]
    simp
  have eA : Builtin.bitAnd (x : Int) (Builtin.bitNot ((1 * 2 ^ m - 1) * 2 ^ lo)) = ((x - (x &&& ((2 ^ m - 1) * 2 ^ lo)) : Nat) : Int) := by
    rw [eM]
    generalize (2 ^ m - 1) * 2 ^ lo = M
    have hle : x &&& M ≤ x := Nat.and_le_left
    rw [PyProof.Rows.bitAnd_not, PyProof.Rows.bitAnd_pp (by omega) (by omega), Int.toNat_natCast, Int.toNat_natCast]
    omega
  rw [eA]
  have eV : (v : Int) * 2 ^ lo = ((v * 2 ^ lo : Nat) : Int) := by simp
  rw [eV, Bits.bitOr_pp (by omega) (by omega), Int.toNat_natCast, Int.toNat_natCast, nat_put x lo m v hv3]
  simp
theorem pow_le2 {k n : Nat} (h : k ≤ n) : (2 : Int) ^ k ≤ 2 ^ n := by exact_mod_cast Nat.pow_le_pow_right (by decide) h
/-! ### words, numbers within bounds: asked for, refused -/
def isWord : V → Bool
  | .int n => decide (0 ≤ n) && decide (n < 65536)
  | _ => false
def isMany (lo hi : Int) : V → Bool
  | .int n => decide (0 ≤ n) && (decide (lo ≤ n) && decide (n ≤ hi))
  | _ => false
def W16 (x : Int) : Prop := 0 ≤ x ∧ x < 65536
theorem isWord_of {x : Int} (h : W16 x) : isWord (.int x) = true := by
  obtain ⟨h1, h2⟩ := h
  simp [isWord, h1, h2]
theorem isMany_of {x lo hi : Int} (h0 : 0 ≤ x) (h1 : lo ≤ x) (h2 : x ≤ hi) : isMany lo hi (.int x) = true := by simp [isMany, h0, h1, h2]
/-- what is wanted of a refusal of v by an error of the class at C -/
def Refuse (C : Addr) (E : XK) (H : Hp) (v : V) : Prop := ∀ d H', Same H H' → H d = none → H' d = some (.xd [("value", v)]) → E (.ref C) (some d) H'
def spIsWord (K : PySem.W.Frag) : Sp := fun vs H Q _ => ∃ (v : V), vs = [v] ∧ KInt K H v (isI v) ∧ Q (.bl (isWord v)) H
def spWantWord (K : PySem.W.Frag) (C : Addr) : Sp := fun vs H Q E => ∃ (v : V), vs = [v] ∧ KInt K H v (isI v) ∧ (isWord v = true → Q .non H) ∧ (isWord v = false → Refuse C E H v)
def spWantMany (K : PySem.W.Frag) (C : Addr) : Sp := fun vs H Q E => ∃ (v : V) (lo hi : Int), vs = [v, .int lo, .int hi] ∧ KInt K H v (isI v) ∧ (isMany lo hi v = true → Q .non H) ∧ (isMany lo hi v = false → Refuse C E H v)
theorem w_wantWord {K : PySem.W.Frag} {C : Addr} {H : Hp} {Q : VK} {E : XK} {x : Int} (h : W16 x) (q : Q .non H) : spWantWord K C [.int x] H Q E := ⟨_, rfl, kint_int x, fun _ => q, fun z => by rw [isWord_of h] at z; cases z⟩
theorem w_wantMany {K : PySem.W.Frag} {C : Addr} {H : Hp} {Q : VK} {E : XK} {x lo hi : Int} (h0 : 0 ≤ x) (h1 : lo ≤ x) (h2 : x ≤ hi) (q : Q .non H) : spWantMany K C [.int x, .int lo, .int hi] H Q E := ⟨_, _, _, rfl, kint_int x, fun _ => q, fun z => by rw [isMany_of h0 h1 h2] at z; cases z⟩
/-- two words to one number -/
def spW2 (f : Int → Int → Int) (ok : Int → Int → Prop) : Sp := fun vs H Q _ => ∃ x y : Int, vs = [.int x, .int y] ∧ ok x y ∧ Q (.int (f x y)) H
def spI1 (f : Int → Int) (ok : Int → Prop) : Sp := fun vs H Q _ => ∃ x : Int, vs = [.int x] ∧ ok x ∧ Q (.int (f x)) H
def spI3 (f : Int → Int → Int → Int) (ok : Int → Int → Int → Prop) : Sp := fun vs H Q _ => ∃ x y z : Int, vs = [.int x, .int y, .int z] ∧ ok x y z ∧ Q (.int (f x y z)) H
def spI4 (f : Int → Int → Int → Int → Int) (ok : Int → Int → Int → Int → Prop) : Sp := fun vs H Q _ => ∃ x y z u : Int, vs = [.int x, .int y, .int z, .int u] ∧ ok x y z u ∧ Q (.int (f x y z u)) H
def spTwoW (K : PySem.W.Frag) : Sp := fun vs H Q _ => ∃ x y : Int, vs = [.int x, .int y] ∧ (W16 x ∧ W16 y) ∧ Q .non H
/-- a new list of ints -/
def NewL (H : Hp) (Q : VK) (xs : List Int) : Prop := ∀ p H', Same H H' → H p = none → H' p = some (.lst (xs.map V.int)) → Q (.ref p) H'
/-! ### loops and comprehensions over anything that is walked -/
def kLoop (g : TG) (tb : TS) (D : Ends) (σ : L2.St) (J : It) (H : Hp) : Prop := ∃ W : Nat → Nat → L2.St → Hp → Prop, (∃ m, W 0 m σ H) ∧ ∀ i m σ H, W i m σ H →
  (J.stop i H ∧ D.nx σ H) ∨ (J.go i H ∧ ∃ N : L2.St → Hp → Prop, (∀ σ' H', N σ' H' → ∃ m', m' < m ∧ W (i + 1) m' σ' H') ∧ ∀ x H', J.yld i H x H' → g x σ H' fun σ2 H2 => tb { D with nx := N, ct := N, bk := D.nx } σ2 H2)
def kComp (g : TG) (te : TE) (vs : List Nat) (σ : L2.St) (Q : VK) (J : It) (H : Hp) : Prop := ∀ D, H D = none → ∃ W : Nat → Nat → Hp → Prop, (∃ m, W 0 m (upd H D (.lst []))) ∧ ∀ i m H, W i m H →
  (J.stop i H ∧ Q (.ref D) H) ∨ (J.go i H ∧ ∃ Nx : Hp → Prop, (∀ H', Nx H' → ∃ m', m' < m ∧ W (i + 1) m' H') ∧ ∀ x H', J.yld i H x H' → g x (wipe σ vs) H' fun σ2 H2 => wipe σ2 vs = wipe σ vs ∧ tYes σ2 H2 fun b H3 =>
    if b = true then te σ2 H3 fun y H4 => ∃ acc, H4 D = some (.lst acc) ∧ acc.length < sizeLine ∧ Nx (upd H4 D (.lst (acc ++ [y]))) else Nx H3)
section
variable {K : PySem.W.Frag} {σ : L2.St} {H : Hp} {g : TG} {tb : TS} {te tl : TE} {ta : TA} {nx bk ct : L2.St → Hp → Prop} {rt Q : VK} {vs : List Nat} {J : It} {n : Nat} {G : Hp → Prop} {Y : Nat → Hp → V → Hp → Prop} {R : It → Hp → Prop}
def kZip (K : PySem.W.Frag) (R : It → Hp → Prop) (us : List V) (H : Hp) : Prop := ∃ a b xs ys, us = [.ref a, .ref b] ∧ SqL K H a xs ∧ SqL K H b ys ∧ R (Itz K a b) H
def kEnum (K : PySem.W.Frag) (R : It → Hp → Prop) (us : List V) (H : Hp) : Prop := ∃ a xs, us = [.ref a] ∧ SqL K H a xs ∧ R (Ite K a) H
theorem w_forZ (q : ta σ H fun us H1 => kZip K (kLoop g tb ⟨nx, rt, bk, ct⟩ σ) us H1) : tFor (iZip K ta) g tb ⟨nx, rt, bk, ct⟩ σ H := q
theorem w_forE (q : ta σ H fun us H1 => kEnum K (kLoop g tb ⟨nx, rt, bk, ct⟩ σ) us H1) : tFor (iEnum K ta) g tb ⟨nx, rt, bk, ct⟩ σ H := q
theorem w_lcZ (q : ta σ H fun us H1 => kZip K (kComp g te vs σ Q) us H1) : tLc (iZip K ta) g tYes te vs σ H Q := q
theorem w_lcE (q : ta σ H fun us H1 => kEnum K (kComp g te vs σ Q) us H1) : tLc (iEnum K ta) g tYes te vs σ H Q := q
theorem w_zip {a b : Addr} {xs ys : List V} (h1 : SqL K H a xs) (h2 : SqL K H b ys) (q : R (Itz K a b) H) : kZip K R [.ref a, .ref b] H := ⟨a, b, xs, ys, rfl, h1, h2, q⟩
theorem w_enum {a : Addr} {xs : List V} (h1 : SqL K H a xs) (q : R (Ite K a) H) : kEnum K R [.ref a] H := ⟨a, xs, rfl, h1, q⟩
theorem w_loop (w : Walk J n G Y) (Pv : Nat → L2.St → Hp → Prop) (h0 : Pv 0 σ H) (hG : ∀ i σ H, i ≤ n → Pv i σ H → G H)
    (hs : ∀ i x σ' H' H'', i < n → Pv i σ' H' → Y i H' x H'' → g x σ' H'' fun σ2 H2 => tb ⟨Pv (i + 1), rt, nx, Pv (i + 1)⟩ σ2 H2) (hd : ∀ σ' H', Pv n σ' H' → nx σ' H') : kLoop g tb ⟨nx, rt, bk, ct⟩ σ J H :=
  for_it w (D := ⟨nx, rt, bk, ct⟩) Pv h0 hG hs hd
/-- each turn of a comprehension gives f i, and nothing that stood is changed -/
theorem w_comp (f : Nat → V) (w : Walk J n G Y) (hn : n ≤ 100000) (hG : ∀ H', Same H H' → G H')
    (step : ∀ (i : Nat) (x : V) (H' H'' : Hp) (R : VK) (S : Hp → Prop), i < n → Same H H' → Y i H' x H'' → (Same H' H'' → ∀ H4, Same H'' H4 → R (f i) H4) → g x (wipe σ vs) H'' fun σ2 H2 => wipe σ2 vs = wipe σ vs ∧ tYes σ2 H2 fun b H3 => if b = true then te σ2 H3 R else S H3)
    (q : ∀ D H', Same H H' → H D = none → H' D = some (.lst ((List.range n).map f)) → Q (.ref D) H') : kComp g te vs σ Q J H := fun D nD => by
  refine lc_it w (fun i H' => i ≤ n ∧ Same H H' ∧ H' D = some (.lst ((List.range i).map f))) ⟨Nat.zero_le _, same_new nD, upd_same⟩ (fun i H' _ p => hG _ p.2.1) (fun i x H' H'' hi p y => ?_) (fun H' p => q D H' p.2.1 nD p.2.2)
  refine step i x H' H'' _ _ hi p.2.1 y fun s4 H4 s5 => ?_
  have hD4 := s5 _ _ (s4 _ _ p.2.2)
  refine ⟨_, hD4, ?_, hi, lc_inv nD ((p.2.1.trans s4).trans s5) hD4 _ rfl⟩
  rw [List.length_map, List.length_range]
  exact Nat.lt_of_lt_of_le (Nat.lt_of_lt_of_le hi hn) (by decide)
end
/-! ### lists of ints, compared -/
theorem ints_lay : ∀ ps : List Int, PyData.canLayAll0 (ps.map PyData.int) = true
  | [] => rfl
  | q :: ps => by
    rw [List.map_cons]
    simp only [PyData.canLayAll0, ints_lay ps, PyData.canLay0, Bool.and_self]
theorem ints_depth : ∀ ps : List Int, PyData.depthAll (ps.map PyData.int) ≤ 1
  | [] => by simp [PyData.depthAll]
  | q :: ps => by
    have h := ints_depth ps
    rw [List.map_cons]
    simp only [PyData.depthAll, PyData.depth] at h ⊢
    omega
theorem ints_shaped (ps : List Int) : SeqAt.shaped (.list (ps.map PyData.int)) = true := by
  unfold SeqAt.shaped
  have h := ints_depth ps
  rw [Bool.and_eq_true]
  refine ⟨by rw [PyData.canLay0]; exact ints_lay ps, decide_eq_true ?_⟩
  simp only [PyData.depth]
  omega
theorem ints_eqv (ps : List Int) : PyData.eqv (.list (ps.map PyData.int)) (.list (ps.map PyData.int)) = true := SeqAt.eqv_refl _ (by rw [PyData.canLay0]; exact ints_lay ps)
theorem ints_dp {K : PySem.W.Frag} {H : Hp} : ∀ ps : List Int, DpAll K H (ps.map V.int) (ps.map PyData.int)
  | [] => .nil
  | n :: ps => by
    rw [List.map_cons, List.map_cons]
    exact .cons (.int n) (ints_dp ps)
theorem w_neIs {K : PySem.W.Frag} {H : Hp} {Q : VK} {p r : Addr} {ps qs : List Int} (h1 : SqL K H p (ps.map V.int)) (h2 : SqL K H r (qs.map V.int)) (e : ps = qs) (q : Q (.bl false) H) : rNeD K (.ref p) (.ref r) H Q := by
  subst e
  exact w_neD (.list (ps.map PyData.int)) (.lst h1 (ints_dp ps)) (.lst h2 (ints_dp ps)) (ints_shaped _) (ints_eqv _) q
theorem w_eqIs {K : PySem.W.Frag} {H : Hp} {Q : VK} {p r : Addr} {ps qs : List Int} (h1 : SqL K H p (ps.map V.int)) (h2 : SqL K H r (qs.map V.int)) (e : ps = qs) (q : Q (.bl true) H) : rEqD K (.ref p) (.ref r) H Q := by
  subst e
  exact w_eqD (.list (ps.map PyData.int)) (.lst h1 (ints_dp ps)) (.lst h2 (ints_dp ps)) (ints_shaped _) (ints_eqv _) q
end Toy

open PySem L2 Toy in
local macro_rules | `(tactic| walk_at "hl") => `(tactic| first | assumption | exact upd_same | (refine' (upd_ne ?h1).trans ?h2; (case h1 => walk_at "ne"); (case h2 => walk_at "hl")) | (refine' (show Same _ _ by assumption) _ _ ?h1; (case h1 => walk_at "hl")) | (refine' (show Chg _ _ _ by assumption) _ _ ?h1 ?h2; (case h1 => walk_at "hl"); (case h2 => walk_at "ne")))
open PySem L2 Toy in
local macro_rules | `(tactic| walk_at "ne") => `(tactic| first | assumption | (apply Ne.symm; assumption) | (refine' ne_of_none ?h1 ?h2; (case h2 => assumption); (case h1 => walk_at "hl")) | (apply Ne.symm; refine' ne_of_none ?h1 ?h2; (case h2 => assumption); (case h1 => walk_at "hl")) | (refine' ne_of ?h1 ?h2 ?h3; (case h1 => walk_at "hl"); (case h2 => walk_at "hl"); (case h3 => intro z; cases z)))
open PySem L2 Toy in
local macro_rules | `(tactic| walk_at "sq") => `(tactic| first | assumption | (refine' SqL.of ?h1; (case h1 => walk_at "hl")) | (refine' SqT.of ?h1; (case h1 => walk_at "hl")) | exact Same.seq (by assumption) (by assumption) | exact same_seqT (by assumption) (by assumption))
open PySem L2 Toy in
local macro_rules | `(tactic| walk_at "si") => `(tactic| first | omega | assumption | decide | (refine ⟨?_, ?_⟩ <;> omega) | exact Or.inl ⟨by omega, by omega⟩ | exact Or.inr ⟨by omega, by omega⟩ | exact ⟨by omega, by omega, by omega⟩ | exact ⟨by decide, by decide, by decide⟩)
open PySem L2 Toy in
local macro_rules | `(tactic| walk_at "st") => `(tactic| first
  | with_reducible first
    | refine w_seq ?_ | refine w_c ?_ | refine w_op ?_ | refine w_un ?_ | refine w_I0 ?_ | refine w_U ?_ | refine w_cb ?_ | refine w_cons ?_ | refine w_nil ?_ | refine w_call ?_ | refine w_tup ?_ | refine w_lst ?_
    | refine w_asg ?_ | refine w_gname ?_ | refine w_ret ?_ | refine w_drop ?_ | refine w_ifs ?_ | refine w_if0 ?_ | refine w_test ?_ | refine w_B ?_ | refine w_not ?_ | refine w_andV ?_ | refine w_orV ?_ | refine w_notV ?_ | refine w_bl ?_
    | refine w_next ?_ | refine w_brk ?_ | refine w_cont ?_ | refine w_retN ?_ | refine w_fld0 ?_ | refine w_sfld0 ?_ | refine w_meth0 ?_ | refine w_prop0 ?_ | refine w_make ?_ | refine w_par ?_ | refine w_vw ?_ | refine w_gsub ?_ | refine w_gcons ?_ | refine w_gnil ?_
    | refine w_iI ?_ | refine w_iIJ ?_ | refine w_int1 ?_ | refine iteT ?_ | refine iteF ?_ | refine w_methSx0 ?_ | refine w_methN0 ?_ | refine w_callN ?_ | refine w_callS ?_ | refine w_yes ?_ | refine w_mko0 ?_ | refine w_chain ?_ | refine w_sl ?_ | refine w_nopart ?_ | refine w_part ?_ | refine w_ei ?_ | refine w_rev0 ?_ | refine w_forZ ?_ | refine w_forE ?_ | refine w_lcZ ?_ | refine w_lcE ?_ | refine w_bm ?_ | refine w_bm0 ?_ | refine w_forR1 ?_ | refine w_forL ?_ | refine w_forT ?_ | refine iteNT ?_ | refine iteNF ?_
  | ((with_reducible refine' w_var ?h ?_); (case h => rfl))
  | ((with_reducible refine' w_I ?h ?_); (case h => walk_at "si"))
  | ((with_reducible refine' w_ixL ?h ?g ?_); (case h => walk_at "sq"); (case g => first | rfl | assumption))
  | ((with_reducible refine' w_ixT ?h ?g ?_); (case h => walk_at "sq"); (case g => first | rfl | assumption))
  | ((with_reducible refine' w_setL ?h ?g ?_); (case h => walk_at "hl"); (case g => first | rfl | assumption))
  | ((with_reducible refine' w_gtup ?h ?g ?_); (case h => walk_at "sq"); (case g => rfl))
  | ((with_reducible refine' w_lenL ?h ?_); (case h => walk_at "sq"))
  | ((with_reducible refine' w_lenT ?h ?_); (case h => walk_at "sq"))
  | ((with_reducible refine' w_eq ?h ?_); (case h => rfl))
  | ((with_reducible refine' w_ne ?h ?_); (case h => rfl))
  | ((with_reducible refine' w_ea ?h ?_); (case h => rfl))
  | ((with_reducible refine' w_fld ?h ?c ?n ?l ?_); (case h => walk_at "hl"); (case c => walk_at "cls"); (case n => walk_at "nat"); (case l => rfl))
  | ((with_reducible refine' w_sfld ?h ?c ?n ?l ?e ?_); (case h => walk_at "hl"); (case c => walk_at "cls"); (case n => walk_at "nat"); (case l => exact Nat.le_of_ble_eq_true rfl); (case e => rfl))
  | ((with_reducible refine' w_meth ?h ?l ?_); (case h => walk_at "hl"); (case l => rfl))
  | ((with_reducible refine' w_prop ?h ?_); (case h => walk_at "hl"))
  | ((with_reducible refine' w_tyL ?h ?_); (case h => walk_at "sq"))
  | ((with_reducible refine' w_app ?h ?z ?_); (case h => walk_at "hl"); (case z => first | omega | (simp; omega) | simp))
  | ((with_reducible refine' w_cat ?h ?g ?z ?_); (case h => walk_at "hl"); (case g => walk_at "hl"); (case z => first | omega | (simp; omega) | simp))
  | ((with_reducible refine' w_zip ?h ?g ?_); (case h => walk_at "sq"); (case g => walk_at "sq"))
  | ((with_reducible refine' w_enum ?h ?_); (case h => walk_at "sq"))
  | ((with_reducible refine' w_slL ?h ?_); (case h => walk_at "sq"))
  | ((with_reducible refine' w_rev ?h ?_); (case h => walk_at "sq"))
  | ((with_reducible refine' w_rep ?h ?a ?b ?z ?_); (case h => walk_at "hl"); (case a => omega); (case b => omega); (case z => first | omega | exact Nat.le_of_ble_eq_true rfl | (simp; omega)))
  | ((with_reducible refine' w_laid ?h ?_); (case h => simp)))
namespace Toy
open PySem L2
def top (i : Nat) : Stmt := PySem.Challenge.pw_orderlycore_k11_whole_words_bit_by_bit.main.body.getD i (.Pass ⟨0, 0, 0, 0⟩)
abbrev s_CoreError___init__ : Stmt := inClass (top 1) 0
theorem sc_CoreError___init__ : FnScope ["self", "value"] ["self", "value"] (defScope s_CoreError___init__) := ⟨rfl, rfl, rfl, by decide +kernel, rfl, by decide +kernel, by decide +kernel⟩
abbrev s_DividedByNought___init__ : Stmt := inClass (top 4) 0
theorem sc_DividedByNought___init__ : FnScope ["self"] ["self"] (defScope s_DividedByNought___init__) := ⟨rfl, rfl, rfl, by decide +kernel, rfl, by decide +kernel, by decide +kernel⟩
abbrev s_is_integer : Stmt := top 7
theorem sc_is_integer : FnScope ["value"] ["value"] (defScope s_is_integer) := ⟨rfl, rfl, rfl, by decide +kernel, rfl, by decide +kernel, by decide +kernel⟩
abbrev s_is_count : Stmt := top 8
theorem sc_is_count : FnScope ["value"] ["value"] (defScope s_is_count) := ⟨rfl, rfl, rfl, by decide +kernel, rfl, by decide +kernel, by decide +kernel⟩
abbrev s_want_many : Stmt := top 9
theorem sc_want_many : FnScope ["value", "least", "most"] ["value", "least", "most"] (defScope s_want_many) := ⟨rfl, rfl, rfl, by decide +kernel, rfl, by decide +kernel, by decide +kernel⟩
abbrev s_is_word : Stmt := top 13
theorem sc_is_word : FnScope ["value"] ["value"] (defScope s_is_word) := ⟨rfl, rfl, rfl, by decide +kernel, rfl, by decide +kernel, by decide +kernel⟩
abbrev s_want_word : Stmt := top 14
theorem sc_want_word : FnScope ["value"] ["value"] (defScope s_want_word) := ⟨rfl, rfl, rfl, by decide +kernel, rfl, by decide +kernel, by decide +kernel⟩
abbrev s_part_of : Stmt := top 15
theorem sc_part_of : FnScope ["word", "low", "many"] ["word", "low", "many"] (defScope s_part_of) := ⟨rfl, rfl, rfl, by decide +kernel, rfl, by decide +kernel, by decide +kernel⟩
abbrev s_put_part : Stmt := top 16
theorem sc_put_part : FnScope ["word", "low", "many", "value", "mask"] ["word", "low", "many", "value"] (defScope s_put_part) := ⟨rfl, rfl, rfl, by decide +kernel, rfl, by decide +kernel, by decide +kernel⟩
abbrev s_two_words : Stmt := top 17
theorem sc_two_words : FnScope ["one", "other"] ["one", "other"] (defScope s_two_words) := ⟨rfl, rfl, rfl, by decide +kernel, rfl, by decide +kernel, by decide +kernel⟩
abbrev s_plus : Stmt := top 18
theorem sc_plus : FnScope ["one", "other"] ["one", "other"] (defScope s_plus) := ⟨rfl, rfl, rfl, by decide +kernel, rfl, by decide +kernel, by decide +kernel⟩
abbrev s_minus : Stmt := top 19
theorem sc_minus : FnScope ["one", "other"] ["one", "other"] (defScope s_minus) := ⟨rfl, rfl, rfl, by decide +kernel, rfl, by decide +kernel, by decide +kernel⟩
abbrev s_times : Stmt := top 20
theorem sc_times : FnScope ["one", "other"] ["one", "other"] (defScope s_times) := ⟨rfl, rfl, rfl, by decide +kernel, rfl, by decide +kernel, by decide +kernel⟩
abbrev s_over : Stmt := top 21
theorem sc_over : FnScope ["one", "other"] ["one", "other"] (defScope s_over) := ⟨rfl, rfl, rfl, by decide +kernel, rfl, by decide +kernel, by decide +kernel⟩
abbrev s_both : Stmt := top 22
theorem sc_both : FnScope ["one", "other"] ["one", "other"] (defScope s_both) := ⟨rfl, rfl, rfl, by decide +kernel, rfl, by decide +kernel, by decide +kernel⟩
abbrev s_either : Stmt := top 23
theorem sc_either : FnScope ["one", "other"] ["one", "other"] (defScope s_either) := ⟨rfl, rfl, rfl, by decide +kernel, rfl, by decide +kernel, by decide +kernel⟩
abbrev s_unlike : Stmt := top 24
theorem sc_unlike : FnScope ["one", "other"] ["one", "other"] (defScope s_unlike) := ⟨rfl, rfl, rfl, by decide +kernel, rfl, by decide +kernel, by decide +kernel⟩
abbrev s_shifted_up : Stmt := top 25
theorem sc_shifted_up : FnScope ["one", "many"] ["one", "many"] (defScope s_shifted_up) := ⟨rfl, rfl, rfl, by decide +kernel, rfl, by decide +kernel, by decide +kernel⟩
abbrev s_shifted_down : Stmt := top 26
theorem sc_shifted_down : FnScope ["one", "many"] ["one", "many"] (defScope s_shifted_down) := ⟨rfl, rfl, rfl, by decide +kernel, rfl, by decide +kernel, by decide +kernel⟩
abbrev s_signed : Stmt := top 27
theorem sc_signed : FnScope ["word"] ["word"] (defScope s_signed) := ⟨rfl, rfl, rfl, by decide +kernel, rfl, by decide +kernel, by decide +kernel⟩
abbrev s_bits : Stmt := top 28
theorem sc_bits : FnScope ["word", "low", "many"] ["word", "low", "many"] (defScope s_bits) := ⟨rfl, rfl, rfl, by decide +kernel, rfl, by decide +kernel, by decide +kernel⟩
abbrev s_with_bits : Stmt := top 29
theorem sc_with_bits : FnScope ["word", "low", "many", "value"] ["word", "low", "many", "value"] (defScope s_with_bits) := ⟨rfl, rfl, rfl, by decide +kernel, rfl, by decide +kernel, by decide +kernel⟩
abbrev s__law_pot : Stmt := top 31
theorem sc__law_pot : FnScope ["_law_script", "_law_k", "_law_cell"] ["_law_script", "_law_k"] (defScope s__law_pot) := ⟨rfl, rfl, rfl, by decide +kernel, rfl, by decide +kernel, by decide +kernel⟩
abbrev s__law_draw : Stmt := top 32
theorem sc__law_draw : FnScope ["_law_pot_here", "_law_size", "_law_digit"] ["_law_pot_here", "_law_size"] (defScope s__law_draw) := ⟨rfl, rfl, rfl, by decide +kernel, rfl, by decide +kernel, by decide +kernel⟩
abbrev s__law_pick : Stmt := top 33
theorem sc__law_pick : FnScope ["_law_pot_here", "_law_some"] ["_law_pot_here", "_law_some"] (defScope s__law_pick) := ⟨rfl, rfl, rfl, by decide +kernel, rfl, by decide +kernel, by decide +kernel⟩
abbrev s__law_word : Stmt := top 34
theorem sc__law_word : FnScope ["_law_pot_here", "_law_way"] ["_law_pot_here"] (defScope s__law_word) := ⟨rfl, rfl, rfl, by decide +kernel, rfl, by decide +kernel, by decide +kernel⟩
abbrev s__law_list : Stmt := top 35
theorem sc__law_list : FnScope ["_law_word_here", "_law_found", "_law_turn"] ["_law_word_here"] (defScope s__law_list) := ⟨rfl, rfl, rfl, by decide +kernel, rfl, by decide +kernel, by decide +kernel⟩
abbrev s__law_of : Stmt := top 36
theorem sc__law_of : FnScope ["_law_row", "_law_found", "_law_bit"] ["_law_row"] (defScope s__law_of) := ⟨rfl, rfl, rfl, by decide +kernel, rfl, by decide +kernel, by decide +kernel⟩
abbrev s__law_added : Stmt := top 37
theorem sc__law_added : FnScope ["_law_one", "_law_other", "_law_carry", "_law_found", "_law_near", "_law_far", "_law_total"] ["_law_one", "_law_other", "_law_carry"] (defScope s__law_added) := ⟨rfl, rfl, rfl, by decide +kernel, rfl, by decide +kernel, by decide +kernel⟩
abbrev s__law_times : Stmt := top 38
theorem sc__law_times : FnScope ["_law_one", "_law_other", "_law_found", "_law_at", "_law_bit"] ["_law_one", "_law_other"] (defScope s__law_times) := ⟨rfl, rfl, rfl, by decide +kernel, rfl, by decide +kernel, by decide +kernel⟩
abbrev s__law_sums_right : Stmt := top 39
theorem sc__law_sums_right : FnScope ["_law_one", "_law_other", "_law_near", "_law_far", "_law_turned", "_law_told", "_law_due", "_law_found", "_law_bit", "_law_row", "_law_a", "_law_b"] ["_law_one", "_law_other"] (defScope s__law_sums_right) := ⟨rfl, rfl, rfl, by decide +kernel, rfl, by decide +kernel, by decide +kernel⟩
abbrev s__law_shifts_right : Stmt := top 40
theorem sc__law_shifts_right : FnScope ["_law_word_here", "_law_many", "_law_row", "_law_least", "_law_up", "_law_down"] ["_law_word_here", "_law_many"] (defScope s__law_shifts_right) := ⟨rfl, rfl, rfl, by decide +kernel, rfl, by decide +kernel, by decide +kernel⟩
abbrev s__law_bits_right : Stmt := top 41
theorem sc__law_bits_right : FnScope ["_law_word_here", "_law_low", "_law_many", "_law_value", "_law_row", "_law_new", "_law_told"] ["_law_word_here", "_law_low", "_law_many", "_law_value"] (defScope s__law_bits_right) := ⟨rfl, rfl, rfl, by decide +kernel, rfl, by decide +kernel, by decide +kernel⟩
abbrev s_law : Stmt := top 42
theorem sc_law : FnScope ["_law_script", "_law_pot_here", "_law_turn", "_law_one", "_law_other", "_law_shift", "_law_low", "_law_many"] ["_law_script"] (defScope s_law) := ⟨rfl, rfl, rfl, by decide +kernel, rfl, by decide +kernel, by decide +kernel⟩
structure Ad where
  f_CoreError___init__ : Addr
  d_CoreError___init__ : FuncData
  f_DividedByNought___init__ : Addr
  d_DividedByNought___init__ : FuncData
  f_is_integer : Addr
  d_is_integer : FuncData
  f_is_count : Addr
  d_is_count : FuncData
  f_want_many : Addr
  d_want_many : FuncData
  f_is_word : Addr
  d_is_word : FuncData
  f_want_word : Addr
  d_want_word : FuncData
  f_part_of : Addr
  d_part_of : FuncData
  f_put_part : Addr
  d_put_part : FuncData
  f_two_words : Addr
  d_two_words : FuncData
  f_plus : Addr
  d_plus : FuncData
  f_minus : Addr
  d_minus : FuncData
  f_times : Addr
  d_times : FuncData
  f_over : Addr
  d_over : FuncData
  f_both : Addr
  d_both : FuncData
  f_either : Addr
  d_either : FuncData
  f_unlike : Addr
  d_unlike : FuncData
  f_shifted_up : Addr
  d_shifted_up : FuncData
  f_shifted_down : Addr
  d_shifted_down : FuncData
  f_signed : Addr
  d_signed : FuncData
  f_bits : Addr
  d_bits : FuncData
  f_with_bits : Addr
  d_with_bits : FuncData
  f__law_pot : Addr
  d__law_pot : FuncData
  f__law_draw : Addr
  d__law_draw : FuncData
  f__law_pick : Addr
  d__law_pick : FuncData
  f__law_word : Addr
  d__law_word : FuncData
  f__law_list : Addr
  d__law_list : FuncData
  f__law_of : Addr
  d__law_of : FuncData
  f__law_added : Addr
  d__law_added : FuncData
  f__law_times : Addr
  d__law_times : FuncData
  f__law_sums_right : Addr
  d__law_sums_right : FuncData
  f__law_shifts_right : Addr
  d__law_shifts_right : FuncData
  f__law_bits_right : Addr
  d__law_bits_right : FuncData
  f_law : Addr
  d_law : FuncData
  c_CoreError : Addr
  c_InvalidWord : Addr
  c_InvalidMany : Addr
  c_DividedByNought : Addr
  c_InvalidLow : Addr
  t_MOST_WORD : Tok
  t_BITS : Tok
structure Txt (K : PySem.W.Frag) (mg : Str → Option Value) (a : Ad) : Prop where
  g_CoreError : mg "CoreError" = some (.ref a.c_CoreError)
  x_CoreError : OexC K a.c_CoreError
  xi_CoreError : PySem.W.findIn K (.ref a.c_CoreError) "__init__" = some (some (.ref a.f_CoreError___init__))
  xn_CoreError_value : PySem.W.findIn K (.ref a.c_CoreError) "value" = some none
  g_InvalidWord : mg "InvalidWord" = some (.ref a.c_InvalidWord)
  x_InvalidWord : OexC K a.c_InvalidWord
  xi_InvalidWord : PySem.W.findIn K (.ref a.c_InvalidWord) "__init__" = some (some (.ref a.f_CoreError___init__))
  xn_InvalidWord_value : PySem.W.findIn K (.ref a.c_InvalidWord) "value" = some none
  g_InvalidMany : mg "InvalidMany" = some (.ref a.c_InvalidMany)
  x_InvalidMany : OexC K a.c_InvalidMany
  xi_InvalidMany : PySem.W.findIn K (.ref a.c_InvalidMany) "__init__" = some (some (.ref a.f_CoreError___init__))
  xn_InvalidMany_value : PySem.W.findIn K (.ref a.c_InvalidMany) "value" = some none
  g_DividedByNought : mg "DividedByNought" = some (.ref a.c_DividedByNought)
  x_DividedByNought : OexC K a.c_DividedByNought
  xi_DividedByNought : PySem.W.findIn K (.ref a.c_DividedByNought) "__init__" = some (some (.ref a.f_DividedByNought___init__))
  xn_DividedByNought_value : PySem.W.findIn K (.ref a.c_DividedByNought) "value" = some none
  g_InvalidLow : mg "InvalidLow" = some (.ref a.c_InvalidLow)
  x_InvalidLow : OexC K a.c_InvalidLow
  xi_InvalidLow : PySem.W.findIn K (.ref a.c_InvalidLow) "__init__" = some (some (.ref a.f_CoreError___init__))
  xn_InvalidLow_value : PySem.W.findIn K (.ref a.c_InvalidLow) "value" = some none
  F_CoreError___init__ : Fun K "__init__" "CoreError.__init__" s_CoreError___init__ a.f_CoreError___init__ a.d_CoreError___init__
  b_CoreError___init__ : Binds K a.d_CoreError___init__ ["self", "value"] []
  xt_CoreError___init__ : PySem.W.typeIn K (.ref a.f_CoreError___init__) = some (.type "function")
  F_DividedByNought___init__ : Fun K "__init__" "DividedByNought.__init__" s_DividedByNought___init__ a.f_DividedByNought___init__ a.d_DividedByNought___init__
  b_DividedByNought___init__ : Binds K a.d_DividedByNought___init__ ["self"] []
  xt_DividedByNought___init__ : PySem.W.typeIn K (.ref a.f_DividedByNought___init__) = some (.type "function")
  m_is_integer : mg "is_integer" = some (.ref a.f_is_integer)
  F_is_integer : Fun K "is_integer" "is_integer" s_is_integer a.f_is_integer a.d_is_integer
  b_is_integer : Binds K a.d_is_integer ["value"] []
  m_is_count : mg "is_count" = some (.ref a.f_is_count)
  F_is_count : Fun K "is_count" "is_count" s_is_count a.f_is_count a.d_is_count
  b_is_count : Binds K a.d_is_count ["value"] []
  m_want_many : mg "want_many" = some (.ref a.f_want_many)
  F_want_many : Fun K "want_many" "want_many" s_want_many a.f_want_many a.d_want_many
  b_want_many : Binds K a.d_want_many ["value", "least", "most"] []
  m_is_word : mg "is_word" = some (.ref a.f_is_word)
  F_is_word : Fun K "is_word" "is_word" s_is_word a.f_is_word a.d_is_word
  b_is_word : Binds K a.d_is_word ["value"] []
  m_want_word : mg "want_word" = some (.ref a.f_want_word)
  F_want_word : Fun K "want_word" "want_word" s_want_word a.f_want_word a.d_want_word
  b_want_word : Binds K a.d_want_word ["value"] []
  m_part_of : mg "part_of" = some (.ref a.f_part_of)
  F_part_of : Fun K "part_of" "part_of" s_part_of a.f_part_of a.d_part_of
  b_part_of : Binds K a.d_part_of ["word", "low", "many"] []
  m_put_part : mg "put_part" = some (.ref a.f_put_part)
  F_put_part : Fun K "put_part" "put_part" s_put_part a.f_put_part a.d_put_part
  b_put_part : Binds K a.d_put_part ["word", "low", "many", "value"] []
  m_two_words : mg "two_words" = some (.ref a.f_two_words)
  F_two_words : Fun K "two_words" "two_words" s_two_words a.f_two_words a.d_two_words
  b_two_words : Binds K a.d_two_words ["one", "other"] []
  m_plus : mg "plus" = some (.ref a.f_plus)
  F_plus : Fun K "plus" "plus" s_plus a.f_plus a.d_plus
  b_plus : Binds K a.d_plus ["one", "other"] []
  m_minus : mg "minus" = some (.ref a.f_minus)
  F_minus : Fun K "minus" "minus" s_minus a.f_minus a.d_minus
  b_minus : Binds K a.d_minus ["one", "other"] []
  m_times : mg "times" = some (.ref a.f_times)
  F_times : Fun K "times" "times" s_times a.f_times a.d_times
  b_times : Binds K a.d_times ["one", "other"] []
  m_over : mg "over" = some (.ref a.f_over)
  F_over : Fun K "over" "over" s_over a.f_over a.d_over
  b_over : Binds K a.d_over ["one", "other"] []
  m_both : mg "both" = some (.ref a.f_both)
  F_both : Fun K "both" "both" s_both a.f_both a.d_both
  b_both : Binds K a.d_both ["one", "other"] []
  m_either : mg "either" = some (.ref a.f_either)
  F_either : Fun K "either" "either" s_either a.f_either a.d_either
  b_either : Binds K a.d_either ["one", "other"] []
  m_unlike : mg "unlike" = some (.ref a.f_unlike)
  F_unlike : Fun K "unlike" "unlike" s_unlike a.f_unlike a.d_unlike
  b_unlike : Binds K a.d_unlike ["one", "other"] []
  m_shifted_up : mg "shifted_up" = some (.ref a.f_shifted_up)
  F_shifted_up : Fun K "shifted_up" "shifted_up" s_shifted_up a.f_shifted_up a.d_shifted_up
  b_shifted_up : Binds K a.d_shifted_up ["one", "many"] []
  m_shifted_down : mg "shifted_down" = some (.ref a.f_shifted_down)
  F_shifted_down : Fun K "shifted_down" "shifted_down" s_shifted_down a.f_shifted_down a.d_shifted_down
  b_shifted_down : Binds K a.d_shifted_down ["one", "many"] []
  m_signed : mg "signed" = some (.ref a.f_signed)
  F_signed : Fun K "signed" "signed" s_signed a.f_signed a.d_signed
  b_signed : Binds K a.d_signed ["word"] []
  m_bits : mg "bits" = some (.ref a.f_bits)
  F_bits : Fun K "bits" "bits" s_bits a.f_bits a.d_bits
  b_bits : Binds K a.d_bits ["word", "low", "many"] []
  m_with_bits : mg "with_bits" = some (.ref a.f_with_bits)
  F_with_bits : Fun K "with_bits" "with_bits" s_with_bits a.f_with_bits a.d_with_bits
  b_with_bits : Binds K a.d_with_bits ["word", "low", "many", "value"] []
  m__law_pot : mg "_law_pot" = some (.ref a.f__law_pot)
  F__law_pot : Fun K "_law_pot" "_law_pot" s__law_pot a.f__law_pot a.d__law_pot
  b__law_pot : Binds K a.d__law_pot ["_law_script", "_law_k"] []
  m__law_draw : mg "_law_draw" = some (.ref a.f__law_draw)
  F__law_draw : Fun K "_law_draw" "_law_draw" s__law_draw a.f__law_draw a.d__law_draw
  b__law_draw : Binds K a.d__law_draw ["_law_pot_here", "_law_size"] []
  m__law_pick : mg "_law_pick" = some (.ref a.f__law_pick)
  F__law_pick : Fun K "_law_pick" "_law_pick" s__law_pick a.f__law_pick a.d__law_pick
  b__law_pick : Binds K a.d__law_pick ["_law_pot_here", "_law_some"] []
  m__law_word : mg "_law_word" = some (.ref a.f__law_word)
  F__law_word : Fun K "_law_word" "_law_word" s__law_word a.f__law_word a.d__law_word
  b__law_word : Binds K a.d__law_word ["_law_pot_here"] []
  m__law_list : mg "_law_list" = some (.ref a.f__law_list)
  F__law_list : Fun K "_law_list" "_law_list" s__law_list a.f__law_list a.d__law_list
  b__law_list : Binds K a.d__law_list ["_law_word_here"] []
  m__law_of : mg "_law_of" = some (.ref a.f__law_of)
  F__law_of : Fun K "_law_of" "_law_of" s__law_of a.f__law_of a.d__law_of
  b__law_of : Binds K a.d__law_of ["_law_row"] []
  m__law_added : mg "_law_added" = some (.ref a.f__law_added)
  F__law_added : Fun K "_law_added" "_law_added" s__law_added a.f__law_added a.d__law_added
  b__law_added : Binds K a.d__law_added ["_law_one", "_law_other", "_law_carry"] []
  m__law_times : mg "_law_times" = some (.ref a.f__law_times)
  F__law_times : Fun K "_law_times" "_law_times" s__law_times a.f__law_times a.d__law_times
  b__law_times : Binds K a.d__law_times ["_law_one", "_law_other"] []
  m__law_sums_right : mg "_law_sums_right" = some (.ref a.f__law_sums_right)
  F__law_sums_right : Fun K "_law_sums_right" "_law_sums_right" s__law_sums_right a.f__law_sums_right a.d__law_sums_right
  b__law_sums_right : Binds K a.d__law_sums_right ["_law_one", "_law_other"] []
  m__law_shifts_right : mg "_law_shifts_right" = some (.ref a.f__law_shifts_right)
  F__law_shifts_right : Fun K "_law_shifts_right" "_law_shifts_right" s__law_shifts_right a.f__law_shifts_right a.d__law_shifts_right
  b__law_shifts_right : Binds K a.d__law_shifts_right ["_law_word_here", "_law_many"] []
  m__law_bits_right : mg "_law_bits_right" = some (.ref a.f__law_bits_right)
  F__law_bits_right : Fun K "_law_bits_right" "_law_bits_right" s__law_bits_right a.f__law_bits_right a.d__law_bits_right
  b__law_bits_right : Binds K a.d__law_bits_right ["_law_word_here", "_law_low", "_law_many", "_law_value"] []
  m_law : mg "law" = some (.ref a.f_law)
  F_law : Fun K "law" "law" s_law a.f_law a.d_law
  b_law : Binds K a.d_law ["_law_script"] []
  kb_shifted_down_0_one_many : KBn K a.d_shifted_down ["one", "many"] 0 ["one", "many"] (fun us ws => [ws.getD 0 PySem.Value.none, ws.getD 1 PySem.Value.none]) (fun us ws => [ws.getD 0 V.non, ws.getD 1 V.non])
  kb_times_0_one_other : KBn K a.d_times ["one", "other"] 0 ["one", "other"] (fun us ws => [ws.getD 0 PySem.Value.none, ws.getD 1 PySem.Value.none]) (fun us ws => [ws.getD 0 V.non, ws.getD 1 V.non])
  z_abs : mg "abs" = none
  z_bool : mg "bool" = none
  z_divmod : mg "divmod" = none
  z_enumerate : mg "enumerate" = none
  z_int : mg "int" = none
  z_isinstance : mg "isinstance" = none
  z_len : mg "len" = none
  z_max : mg "max" = none
  z_min : mg "min" = none
  z_range : mg "range" = none
  z_zip : mg "zip" = none
  v_MOST_WORD : mg "MOST_WORD" = some (.int 65536 a.t_MOST_WORD)
  v_BITS : mg "BITS" = some (.int 16 a.t_BITS)
local macro_rules | `(tactic| walk_at "cls") => `(tactic| first | assumption)
local macro_rules | `(tactic| walk_at "nat") => `(tactic| first | assumption)
def sp_law (K : PySem.W.Frag) : Sp := fun vs H Q _ => ∃ (a : Addr) (ns : List Int), vs = [.ref a] ∧ SqL K H a (ns.map V.int) ∧ ns.length ≤ 63 ∧ ∀ H', Q (.bl true) H'
def spLWord : Sp := fun vs H Q _ => ∃ p : Addr, vs = [.ref p] ∧ Pot H p ∧ ∀ x H', Chg p H H' → Pot H' p → W16 x → Q (.int x) H'
def spLList : Sp := fun vs H Q _ => ∃ x : Int, vs = [.int x] ∧ NewL H Q (bitsL 16 x)
def spLOf (K : PySem.W.Frag) : Sp := fun vs H Q _ => ∃ (l : Addr) (xs : List Int), vs = [.ref l] ∧ SqL K H l (xs.map V.int) ∧ ∀ H', Same H H' → Q (.int (ofL xs)) H'
def spLAdded (K : PySem.W.Frag) : Sp := fun vs H Q _ => ∃ (a b : Addr) (xs ys : List Int) (c : Int), vs = [.ref a, .ref b, .int c] ∧ SqL K H a (xs.map V.int) ∧ SqL K H b (ys.map V.int) ∧ xs.length = ys.length ∧ xs.length ≤ 100 ∧ NewL H Q (addL xs ys c)
def spLTimes (K : PySem.W.Frag) : Sp := fun vs H Q _ => ∃ (a b : Addr) (x y : Int), vs = [.ref a, .ref b] ∧ H a = some (.lst ((bitsL 16 x).map V.int)) ∧ SqL K H b ((bitsL 16 y).map V.int) ∧ W16 x ∧ W16 y ∧ ∀ rs : List Int, rs.length = 16 → ofL rs = x * y % 65536 → NewL H Q rs
def spT2 (ok : Int → Int → Prop) : Sp := fun vs H Q _ => ∃ x y : Int, vs = [.int x, .int y] ∧ ok x y ∧ ∀ H', Same H H' → Q (.bl true) H'
def spT4 (ok : Int → Int → Int → Int → Prop) : Sp := fun vs H Q _ => ∃ x y z u : Int, vs = [.int x, .int y, .int z, .int u] ∧ ok x y z u ∧ ∀ H', Same H H' → Q (.bl true) H'
theorem bits_snoc : ∀ (i : Nat) (x : Int), bitsL (i + 1) x = bitsL i x ++ [x / 2 ^ i % 2]
  | 0, x => by simp [bitsL]
  | i + 1, x => by
    show x % 2 :: bitsL (i + 1) (x / 2) = x % 2 :: bitsL i (x / 2) ++ _
    rw [bits_snoc i (x / 2), Int.pow_succ', ← Int.ediv_ediv_of_nonneg (by decide)]
    rfl
theorem ediv_two (x : Int) (i : Nat) : x / 2 ^ i / 2 = x / 2 ^ (i + 1) := by
  rw [Int.pow_succ, Int.ediv_ediv_of_nonneg (Int.le_of_lt (pow_pos2 i))]
theorem of_cons (xs : List Int) (i : Nat) (x : Int) (h : xs[xs.length - 1 - i]? = some x) (hi : i < xs.length) : ofL (xs.drop (xs.length - i)) * 2 + x = ofL (xs.drop (xs.length - (i + 1))) := by
  have e : xs.drop (xs.length - (i + 1)) = x :: xs.drop (xs.length - i) := by
    obtain ⟨h1, h2⟩ := List.getElem?_eq_some_iff.mp h
    have e1 : xs.length - (i + 1) = xs.length - 1 - i := by omega
    rw [e1, List.drop_eq_getElem_cons h1, h2, show xs.length - 1 - i + 1 = xs.length - i by omega]
  rw [e]
  simp only [ofL]
  omega
theorem map_getI {xs : List Int} {i : Nat} {x : V} (h : (xs.map V.int)[i]? = some x) : ∃ n, xs[i]? = some n ∧ x = .int n := by
  rw [List.getElem?_map] at h
  cases e : xs[i]? with
  | none => rw [e] at h; cases h
  | some n =>
    rw [e] at h
    exact ⟨n, rfl, (Option.some.inj h).symm⟩
theorem bits_get : ∀ (n i : Nat) (x : Int), i < n → (bitsL n x)[i]? = some (x / 2 ^ i % 2)
  | n + 1, 0, x, _ => by simp [bitsL]
  | n + 1, i + 1, x, h => by
    rw [Int.pow_succ', ← Int.ediv_ediv_of_nonneg (by decide)]
    simpa [bitsL] using bits_get n i (x / 2) (by omega)
/-- the bits turned -/
def turnL (n : Nat) (y : Int) : List Int := (List.range n).map fun i => 1 - y / 2 ^ i % 2
theorem of_turn : ∀ (n : Nat) (y : Int), ofL ((bitsL n y).map fun b => 1 - b) = 2 ^ n - 1 - y % 2 ^ n
  | 0, y => by simp [bitsL, ofL, Int.emod_one]
  | n + 1, y => by
    show 1 - y % 2 + 2 * ofL ((bitsL n (y / 2)).map fun b => 1 - b) = _
    have h := mod_two_mul y 0 (2 ^ n) (pow_pos2 n)
    rw [of_turn n, Int.pow_succ']
    simp only [Int.mul_zero, Int.add_zero] at h
    rw [h]
    omega
theorem turn_bits (n : Nat) (y : Int) : turnL n y = (bitsL n y).map fun b => 1 - b := by
  refine List.ext_getElem? fun i => ?_
  unfold turnL
  rw [List.getElem?_map, List.getElem?_map]
  by_cases h : i < n
  · rw [bits_get n i y h, List.getElem?_range h]
    rfl
  · rw [List.getElem?_eq_none (by simp; omega), List.getElem?_eq_none (by rw [bitsL_len]; omega)]
    rfl
theorem zip_bits (F : Int → Int → Int) (n : Nat) (x y : Int) : List.zipWith F (bitsL n x) (bitsL n y) = (List.range n).map fun i => F (x / 2 ^ i % 2) (y / 2 ^ i % 2) := by
  refine List.ext_getElem? fun i => ?_
  rw [List.getElem?_zipWith, List.getElem?_map]
  by_cases h : i < n
  · rw [bits_get n i x h, bits_get n i y h, List.getElem?_range h]
    rfl
  · rw [List.getElem?_eq_none (l := bitsL n x) (by rw [bitsL_len]; omega), List.getElem?_eq_none (l := List.range n) (by simp; omega)]
    rfl
theorem zip_map {a : List Int} {n : Nat} {f : Nat → Int} (h : a = (List.range n).map f) : (List.range n).map (fun i => V.int (f i)) = a.map V.int := by
  rw [h, List.map_map]
  rfl
theorem put_mod {A B x v : Int} : (x % A + A * v + A * B * (x / (A * B))) % A = x % A := by
  rw [Int.mul_assoc, Int.add_assoc, ← Int.mul_add, Int.add_mul_emod_self_left, Int.emod_emod]
theorem put_div {A B x v : Int} (hA : 0 < A) : (x % A + A * v + A * B * (x / (A * B))) / A = v + B * (x / (A * B)) := by
  rw [Int.mul_assoc, Int.add_assoc, ← Int.mul_add, Int.add_mul_ediv_left _ _ (by omega), Int.ediv_eq_zero_of_lt (Int.emod_nonneg _ (by omega)) (Int.emod_lt_of_pos _ hA)]
  omega
theorem put_get {A B x v : Int} (hA : 0 < A) (h0 : 0 ≤ v) (h1 : v < B) : (x % A + A * v + A * B * (x / (A * B))) / A % B = v := by
  rw [put_div hA, Int.add_mul_emod_self_left]
  exact Int.emod_eq_of_lt h0 h1
theorem put_high {A B x v : Int} (hA : 0 < A) (h0 : 0 ≤ v) (h1 : v < B) : (x % A + A * v + A * B * (x / (A * B))) / (A * B) = x / (A * B) := by
  rw [← Int.ediv_ediv_of_nonneg (by omega), put_div hA, Int.add_mul_ediv_left _ _ (by omega), Int.ediv_eq_zero_of_lt h0 h1]
  omega
theorem put_self {A B x : Int} (hA : 0 < A) : x % A + A * (x / A % B) + A * B * (x / (A * B)) = x := by
  have h1 := Int.emod_add_mul_ediv x A
  have h2 := Int.emod_add_mul_ediv (x / A) B
  rw [← Int.ediv_ediv_of_nonneg (by omega), Int.mul_assoc, Int.add_assoc, ← Int.mul_add, h2, h1]
theorem of_bound : ∀ xs : List Int, (∀ b ∈ xs, b = 0 ∨ b = 1) → 0 ≤ ofL xs ∧ ofL xs < 2 ^ xs.length
  | [], _ => by simp [ofL]
  | b :: xs, h => by
    obtain ⟨h1, h2⟩ := of_bound xs fun c hc => h c (List.mem_cons_of_mem _ hc)
    have hb := h b (List.mem_cons_self ..)
    simp only [ofL, List.length_cons, Int.pow_succ']
    omega
theorem flat_rep (i : Nat) : (List.replicate ((i : Nat) : Int).toNat [V.int 0]).flatten = List.replicate i (V.int 0) := by
  rw [Int.toNat_natCast]
  induction i with
  | zero => rfl
  | succ i ih => rw [List.replicate_succ, List.flatten_cons, ih]; rfl
theorem shl_mod (x : Int) (i : Nat) (h : i ≤ 16) : 2 ^ i * (x % 2 ^ (16 - i)) = x * 2 ^ i % 65536 := by
  have e : (65536 : Int) = 2 ^ i * 2 ^ (16 - i) := by
    rw [← Int.pow_add, show i + (16 - i) = 16 by omega]
    rfl
  rw [e, Int.mul_comm x, Int.mul_emod_mul_of_pos _ _ (pow_pos2 i)]
theorem shl_list (x : Int) (i : Nat) (h : i ≤ 16) : ofL ((List.replicate i 0 ++ bitsL 16 x).take 16) = x * 2 ^ i % 65536 := by
  rw [List.take_append, List.take_of_length_le (by simp; omega), List.length_replicate, bits_take, of_app, of_rep, of_bits, List.length_replicate, ← shl_mod x i h, show min (16 - i) 16 = 16 - i by omega]
  omega

section
variable {P : Program} {w : World} {K : PySem.W.Frag} {mg : Str → Option Value} {base : Heap} {a : Ad}
theorem ok_CoreError___init__ (T : Txt K mg a) : FnOk P w K mg base (L2.CX P w) 1 a.f_CoreError___init__ a.d_CoreError___init__ ["self", "value"] (spCore K) := by
  refine T.F_CoreError___init__.okX sc_CoreError___init__ (fun vs H Q E h => ?_) (fun cdv A outer s H vs Q E hr h => ?_)
  · obtain ⟨_, _, _, rfl, _⟩ := h
    rfl
  · obtain ⟨x, C, v, rfl, hC, hn, hx, k⟩ := h
    refine ⟨_, (pss_one (ps_ost (pv 0) (pv 1))), ?_⟩
    exact ⟨_, rfl, _, rfl, x, C, rfl, hC, hn, .inl ⟨hx, fun dx n ne => k dx n ne⟩⟩
-- no proof of DividedByNought.__init__
theorem ok_is_integer (T : Txt K mg a) : FnOk P w K mg base (L2.CX P w) 1 a.f_is_integer a.d_is_integer ["value"] (spInt K) := by
  refine T.F_is_integer.okX sc_is_integer (fun vs H Q E h => ?_) (fun cdv A outer s H vs Q E hr h => ?_)
  · obtain ⟨_, _, rfl, _⟩ := h
    rfl
  · obtain ⟨v, b, rfl, ⟨t, b1, b2, ty, e1, e2, rfl⟩, k⟩ := h
    refine ⟨_, (pss_one (ps_ret (pe_and (pe_callB call_isi (by rfl) T.z_isinstance (by decide +kernel) (pa_cons (pv 0) (pa_cons (pe_bltn (v := .ty "int") (u := .type "int") (by rfl) T.z_int (by decide +kernel) rfl) pa_nil))) (pe_one (pe_not (pe_callB call_isi (by rfl) T.z_isinstance (by decide +kernel) (pa_cons (pv 0) (pa_cons (pe_bltn (v := .ty "bool") (u := .type "bool") (by rfl) T.z_bool (by decide +kernel) rfl) pa_nil)))))))), ?_⟩
    refine ⟨_, rfl, v, _, t, _, b1, rfl, .ty "int", ty, e1, b1, rfl, ?_⟩
    cases b1 with
    | false => exact k
    | true => exact ⟨_, rfl, v, _, t, _, b2, rfl, .ty "bool", ty, e2 rfl, b2, rfl, k⟩
theorem ok_is_count (T : Txt K mg a) : FnOk P w K mg base (L2.CX P w) 2 a.f_is_count a.d_is_count ["value"] (spCount K) := by
  refine T.F_is_count.okX sc_is_count (fun vs H Q E h => ?_) (fun cdv A outer s H vs Q E hr h => ?_)
  · obtain ⟨_, rfl, _⟩ := h
    rfl
  · obtain ⟨v, rfl, hk, k⟩ := h
    refine ⟨_, (pss_one (ps_ret (pe_and (pe_call (ok_is_integer T) (hr.mono (by decide)) (by rfl) T.m_is_integer T.F_is_integer.kp T.b_is_integer .nil passL (pa_cons (pv 0) pa_nil)) (pe_one (pe_cmpR op_ge (pv 0) pe_int (nomark _)))))), ?_⟩
    refine ⟨_, rfl, v, _, rfl, hk, _, rfl, ?_⟩
    cases v with
    | int n => exact ⟨_, rfl, _, _, rfl, rfl, k⟩
    | _ => exact k
theorem ok_want_many (T : Txt K mg a) : FnOk P w K mg base (L2.CX P w) 3 a.f_want_many a.d_want_many ["value", "least", "most"] (spWantMany K a.c_InvalidMany) := by
  refine T.F_want_many.okX sc_want_many (fun vs H Q E h => ?_) (fun cdv A outer s H vs Q E hr h => ?_)
  · obtain ⟨_, _, _, rfl, _⟩ := h
    rfl
  · obtain ⟨v, lo, hi, rfl, hk, k1, k2⟩ := h
    refine ⟨_, (pss_one (ps_if (PW.pt (pw_or (pt_not (pt_val (pe_call (ok_is_count T) (hr.mono (by decide)) (by rfl) T.m_is_count T.F_is_count.kp T.b_is_count .nil passL (pa_cons (pv 0) pa_nil)))) (pw_or1 (pt_not (pt_chain op_le op_le (pv 1) (pv 0) (pv 2)))))) (pss_one (ps_raise rfl (takes_of rfl rfl rfl rfl) (pmk_oex T.x_InvalidMany T.xi_InvalidMany T.xt_CoreError___init__ (ok_CoreError___init__ T) (hr.mono (by decide)) T.b_CoreError___init__ .nil passL (by rfl) T.g_InvalidMany (pa_cons (pv 0) pa_nil)))) pss_nil)), ?_⟩
    refine w_in (σ := [some v, some (.int lo), some (.int hi)]) rfl ?_
    repeat (walk_at "st")
    refine w_or ?_
    repeat (walk_at "st")
    refine ⟨v, rfl, hk, ?_⟩
    have bad : isMany lo hi v = false → _ := fun e => w_core T.x_InvalidMany T.xn_InvalidMany_value (k2 e)
    cases v with
    | int n =>
      show ∃ c, V.bl (decide (0 ≤ n)) = .bl c ∧ _
      repeat (walk_at "st")
      refine ifS' (fun h0 => ?_) (fun h0 => ?_)
      · repeat (walk_at "st")
        refine ifS (fun h1 => ?_) (fun h1 => ?_)
        · repeat (walk_at "st")
          refine ifS' (fun h2 => ?_) (fun h2 => ?_)
          · repeat (walk_at "st")
            exact k1 (isMany_of h0 h1 h2)
          · repeat (walk_at "st")
            exact bad (by simp [isMany, h2])
        · repeat (walk_at "st")
          exact bad (by simp [isMany, h1])
      · repeat (walk_at "st")
        exact bad (by simp [isMany, h0])
    | _ =>
      refine ⟨_, rfl, ?_⟩
      show if (!false) = true then _ else _
      repeat (walk_at "st")
      exact bad rfl
theorem ok_is_word (T : Txt K mg a) : FnOk P w K mg base (L2.CX P w) 3 a.f_is_word a.d_is_word ["value"] (spIsWord K) := by
  refine T.F_is_word.okX sc_is_word (fun vs H Q E h => ?_) (fun cdv A outer s H vs Q E hr h => ?_)
  · obtain ⟨_, rfl, _⟩ := h
    rfl
  · obtain ⟨v, rfl, hk, k⟩ := h
    refine ⟨_, (pss_one (ps_ret (pe_and (pe_call (ok_is_count T) (hr.mono (by decide)) (by rfl) T.m_is_count T.F_is_count.kp T.b_is_count .nil passL (pa_cons (pv 0) pa_nil)) (pe_one (pe_cmpR op_lt (pv 0) (pe_glob (v := .int 65536) (by rfl) T.v_MOST_WORD ⟨_, rfl⟩) (nomark _)))))), ?_⟩
    refine w_in (σ := [some v]) rfl ?_
    repeat (walk_at "st")
    refine ⟨v, rfl, hk, ?_⟩
    cases v with
    | int n =>
      show ∃ c, V.bl (decide (0 ≤ n)) = .bl c ∧ _
      refine ⟨_, rfl, ifS (fun h => ?_) (fun h => ?_)⟩
      · repeat (walk_at "st")
        have e : isWord (.int n) = decide (n < 65536) := by simp [isWord, h]
        rw [← e]
        exact k
      · have e : isWord (.int n) = false := by simp [isWord, h]
        rw [e] at k
        exact k
    | _ => exact ⟨_, rfl, iteF k⟩
theorem ok_want_word (T : Txt K mg a) : FnOk P w K mg base (L2.CX P w) 4 a.f_want_word a.d_want_word ["value"] (spWantWord K a.c_InvalidWord) := by
  refine T.F_want_word.okX sc_want_word (fun vs H Q E h => ?_) (fun cdv A outer s H vs Q E hr h => ?_)
  · obtain ⟨_, rfl, _⟩ := h
    rfl
  · obtain ⟨v, rfl, hk, k1, k2⟩ := h
    refine ⟨_, (pss_one (ps_if (pt_not (pt_val (pe_call (ok_is_word T) (hr.mono (by decide)) (by rfl) T.m_is_word T.F_is_word.kp T.b_is_word .nil passL (pa_cons (pv 0) pa_nil)))) (pss_one (ps_raise rfl (takes_of rfl rfl rfl rfl) (pmk_oex T.x_InvalidWord T.xi_InvalidWord T.xt_CoreError___init__ (ok_CoreError___init__ T) (hr.mono (by decide)) T.b_CoreError___init__ .nil passL (by rfl) T.g_InvalidWord (pa_cons (pv 0) pa_nil)))) pss_nil)), ?_⟩
    refine w_in (σ := [some v]) rfl ?_
    repeat (walk_at "st")
    refine ⟨v, rfl, hk, ?_⟩
    repeat (walk_at "st")
    cases e : isWord v with
    | true =>
      repeat (walk_at "st")
      exact k1 e
    | false =>
      repeat (walk_at "st")
      exact w_core T.x_InvalidWord T.xn_InvalidWord_value (k2 e)
theorem ok_part_of (T : Txt K mg a) : FnOk P w K mg base (L2.CX P w) 1 a.f_part_of a.d_part_of ["word", "low", "many"] (spI3 (fun w lo m => w / 2 ^ lo.toNat % 2 ^ m.toNat) fun w lo m => 0 ≤ w ∧ 0 ≤ lo ∧ 0 ≤ m ∧ m ≤ 1000) := by
  refine T.F_part_of.okX sc_part_of (fun vs H Q E h => ?_) (fun cdv A outer s H vs Q E hr h => ?_)
  · obtain ⟨_, _, _, rfl, _⟩ := h
    rfl
  · obtain ⟨x, lo, m, rfl, ⟨hx, h0, h1, h2⟩, q⟩ := h
    refine ⟨_, (pss_one (ps_ret (pe_op op_and (pe_op op_shr (pv 0) (pv 1)) (pe_op op_sub (pe_op op_shl pe_int (pv 2)) pe_int)))), ?_⟩
    refine w_in (σ := [some (.int x), some (.int lo), some (.int m)]) rfl ?_
    repeat (walk_at "st")
    rw [show (1 : Int) * 2 ^ m.toNat - 1 = 2 ^ m.toNat - 1 by omega, Bits.bitAnd_mask _ (Int.ediv_nonneg hx (Int.le_of_lt (pow_pos2 _)))]
    exact q
theorem ok_put_part (T : Txt K mg a) : FnOk P w K mg base (L2.CX P w) 1 a.f_put_part a.d_put_part ["word", "low", "many", "value"] (spI4 (fun w lo m v => w % 2 ^ lo.toNat + 2 ^ lo.toNat * v + 2 ^ (lo.toNat + m.toNat) * (w / 2 ^ (lo.toNat + m.toNat))) fun w lo m v => W16 w ∧ 0 ≤ lo ∧ 0 ≤ m ∧ lo + m ≤ 16 ∧ 0 ≤ v ∧ v < 2 ^ m.toNat) := by
  refine T.F_put_part.okX sc_put_part (fun vs H Q E h => ?_) (fun cdv A outer s H vs Q E hr h => ?_)
  · obtain ⟨_, _, _, _, rfl, _⟩ := h
    rfl
  · obtain ⟨x, lo, m, v, rfl, ⟨⟨hx, hx2⟩, h0, h1, h2, h3, h4⟩, q⟩ := h
    have hs : m.toNat ≤ 16 := by omega
    have hp : (2 : Int) ^ m.toNat ≤ 2 ^ 16 := pow_le2 hs
    refine ⟨_, (pss_cons (ps_set (i := 4) sc_put_part.nd rfl (Or.inl rfl) (pe_op op_shl (pe_op op_sub (pe_op op_shl pe_int (pv 2)) pe_int) (pv 1)))
      (pss_one (ps_ret (pe_op op_or (pe_op op_and (pv 0) (pe_un un_inv (pv 4))) (pe_op op_shl (pv 3) (pv 1)))))), ?_⟩
    refine w_in (σ := [some (.int x), some (.int lo), some (.int m), some (.int v), none]) rfl ?_
    repeat (walk_at "st")
    rw [int_put hx h0 h1 h3 h4]
    exact q
theorem ok_two_words (T : Txt K mg a) : FnOk P w K mg base (L2.CX P w) 5 a.f_two_words a.d_two_words ["one", "other"] (spTwoW K) := by
  refine T.F_two_words.okX sc_two_words (fun vs H Q E h => ?_) (fun cdv A outer s H vs Q E hr h => ?_)
  · obtain ⟨_, _, rfl, _⟩ := h
    rfl
  · obtain ⟨x, y, rfl, ⟨hx, hy⟩, q⟩ := h
    refine ⟨_, (pss_cons (ps_expr (pe_call (ok_want_word T) (hr.mono (by decide)) (by rfl) T.m_want_word T.F_want_word.kp T.b_want_word .nil passL (pa_cons (pv 0) pa_nil)))
      (pss_one (ps_expr (pe_call (ok_want_word T) (hr.mono (by decide)) (by rfl) T.m_want_word T.F_want_word.kp T.b_want_word .nil passL (pa_cons (pv 1) pa_nil))))), ?_⟩
    refine w_in (σ := [some (.int x), some (.int y)]) rfl ?_
    repeat (walk_at "st")
    refine w_wantWord hx ?_
    repeat (walk_at "st")
    exact w_wantWord hy q
theorem ok_plus (T : Txt K mg a) : FnOk P w K mg base (L2.CX P w) 6 a.f_plus a.d_plus ["one", "other"] (spW2 (fun x y => (x + y) % 65536) fun x y => W16 x ∧ W16 y) := by
  refine T.F_plus.okX sc_plus (fun vs H Q E h => ?_) (fun cdv A outer s H vs Q E hr h => ?_)
  · obtain ⟨_, _, rfl, _⟩ := h
    rfl
  · obtain ⟨x, y, rfl, ⟨hx, hy⟩, q⟩ := h
    refine ⟨_, (pss_cons (ps_expr (pe_call (ok_two_words T) (hr.mono (by decide)) (by rfl) T.m_two_words T.F_two_words.kp T.b_two_words .nil passL (pa_cons (pv 0) (pa_cons (pv 1) pa_nil))))
      (pss_one (ps_ret (pe_op op_mod (pe_op op_add (pv 0) (pv 1)) (pe_glob (v := .int 65536) (by rfl) T.v_MOST_WORD ⟨_, rfl⟩))))), ?_⟩
    refine w_in (σ := [some (.int x), some (.int y)]) rfl ?_
    repeat (walk_at "st")
    refine ⟨x, y, rfl, ⟨hx, hy⟩, ?_⟩
    obtain ⟨hx0, hx1⟩ := id hx
    repeat (walk_at "st")
    exact q
theorem ok_minus (T : Txt K mg a) : FnOk P w K mg base (L2.CX P w) 6 a.f_minus a.d_minus ["one", "other"] (spW2 (fun x y => (x - y) % 65536) fun x y => W16 x ∧ W16 y) := by
  refine T.F_minus.okX sc_minus (fun vs H Q E h => ?_) (fun cdv A outer s H vs Q E hr h => ?_)
  · obtain ⟨_, _, rfl, _⟩ := h
    rfl
  · obtain ⟨x, y, rfl, ⟨hx, hy⟩, q⟩ := h
    refine ⟨_, (pss_cons (ps_expr (pe_call (ok_two_words T) (hr.mono (by decide)) (by rfl) T.m_two_words T.F_two_words.kp T.b_two_words .nil passL (pa_cons (pv 0) (pa_cons (pv 1) pa_nil))))
      (pss_one (ps_ret (pe_op op_mod (pe_op op_sub (pv 0) (pv 1)) (pe_glob (v := .int 65536) (by rfl) T.v_MOST_WORD ⟨_, rfl⟩))))), ?_⟩
    refine w_in (σ := [some (.int x), some (.int y)]) rfl ?_
    repeat (walk_at "st")
    refine ⟨x, y, rfl, ⟨hx, hy⟩, ?_⟩
    obtain ⟨hx0, hx1⟩ := id hx
    repeat (walk_at "st")
    exact q
theorem ok_times (T : Txt K mg a) : FnOk P w K mg base (L2.CX P w) 6 a.f_times a.d_times ["one", "other"] (spW2 (fun x y => x * y % 65536) fun x y => W16 x ∧ W16 y) := by
  refine T.F_times.okX sc_times (fun vs H Q E h => ?_) (fun cdv A outer s H vs Q E hr h => ?_)
  · obtain ⟨_, _, rfl, _⟩ := h
    rfl
  · obtain ⟨x, y, rfl, ⟨hx, hy⟩, q⟩ := h
    refine ⟨_, (pss_cons (ps_expr (pe_call (ok_two_words T) (hr.mono (by decide)) (by rfl) T.m_two_words T.F_two_words.kp T.b_two_words .nil passL (pa_cons (pv 0) (pa_cons (pv 1) pa_nil))))
      (pss_one (ps_ret (pe_op op_mod (pe_op op_mul (pv 0) (pv 1)) (pe_glob (v := .int 65536) (by rfl) T.v_MOST_WORD ⟨_, rfl⟩))))), ?_⟩
    refine w_in (σ := [some (.int x), some (.int y)]) rfl ?_
    repeat (walk_at "st")
    refine ⟨x, y, rfl, ⟨hx, hy⟩, ?_⟩
    obtain ⟨hx0, hx1⟩ := id hx
    repeat (walk_at "st")
    exact q
theorem ok_over (T : Txt K mg a) : FnOk P w K mg base (L2.CX P w) 6 a.f_over a.d_over ["one", "other"] (spW2 (fun x y => x / y) fun x y => W16 x ∧ W16 y ∧ 0 < y) := by
  refine T.F_over.okX sc_over (fun vs H Q E h => ?_) (fun cdv A outer s H vs Q E hr h => ?_)
  · obtain ⟨_, _, rfl, _⟩ := h
    rfl
  · obtain ⟨x, y, rfl, ⟨hx, hy, h0⟩, q⟩ := h
    refine ⟨_, (pss_cons (ps_expr (pe_call (ok_two_words T) (hr.mono (by decide)) (by rfl) T.m_two_words T.F_two_words.kp T.b_two_words .nil passL (pa_cons (pv 0) (pa_cons (pv 1) pa_nil))))
      (pss_cons (ps_if (pt_cmpR op_eq (pv 1) pe_int (nomark _)) (pss_one ps_never) pss_nil)
      (pss_one (ps_ret (pe_op op_fdiv (pv 0) (pv 1)))))), ?_⟩
    refine w_in (σ := [some (.int x), some (.int y)]) rfl ?_
    repeat (walk_at "st")
    refine ⟨x, y, rfl, ⟨hx, hy⟩, ?_⟩
    obtain ⟨hy0, hy1⟩ := id hy
    repeat (walk_at "st")
    refine ifF (fun z => by have := V.int.inj z; omega) ?_
    repeat (walk_at "st")
    exact q
theorem ok_both (T : Txt K mg a) : FnOk P w K mg base (L2.CX P w) 6 a.f_both a.d_both ["one", "other"] (spW2 (fun x y => PySem.Builtin.bitAnd x y) fun x y => W16 x ∧ W16 y) := by
  refine T.F_both.okX sc_both (fun vs H Q E h => ?_) (fun cdv A outer s H vs Q E hr h => ?_)
  · obtain ⟨_, _, rfl, _⟩ := h
    rfl
  · obtain ⟨x, y, rfl, ⟨hx, hy⟩, q⟩ := h
    refine ⟨_, (pss_cons (ps_expr (pe_call (ok_two_words T) (hr.mono (by decide)) (by rfl) T.m_two_words T.F_two_words.kp T.b_two_words .nil passL (pa_cons (pv 0) (pa_cons (pv 1) pa_nil))))
      (pss_one (ps_ret (pe_op op_and (pv 0) (pv 1))))), ?_⟩
    refine w_in (σ := [some (.int x), some (.int y)]) rfl ?_
    repeat (walk_at "st")
    refine ⟨x, y, rfl, ⟨hx, hy⟩, ?_⟩
    obtain ⟨hx0, hx1⟩ := id hx
    repeat (walk_at "st")
    exact q
theorem ok_either (T : Txt K mg a) : FnOk P w K mg base (L2.CX P w) 6 a.f_either a.d_either ["one", "other"] (spW2 (fun x y => PySem.Builtin.bitOr x y) fun x y => W16 x ∧ W16 y) := by
  refine T.F_either.okX sc_either (fun vs H Q E h => ?_) (fun cdv A outer s H vs Q E hr h => ?_)
  · obtain ⟨_, _, rfl, _⟩ := h
    rfl
  · obtain ⟨x, y, rfl, ⟨hx, hy⟩, q⟩ := h
    refine ⟨_, (pss_cons (ps_expr (pe_call (ok_two_words T) (hr.mono (by decide)) (by rfl) T.m_two_words T.F_two_words.kp T.b_two_words .nil passL (pa_cons (pv 0) (pa_cons (pv 1) pa_nil))))
      (pss_one (ps_ret (pe_op op_or (pv 0) (pv 1))))), ?_⟩
    refine w_in (σ := [some (.int x), some (.int y)]) rfl ?_
    repeat (walk_at "st")
    refine ⟨x, y, rfl, ⟨hx, hy⟩, ?_⟩
    obtain ⟨hx0, hx1⟩ := id hx
    repeat (walk_at "st")
    exact q
theorem ok_unlike (T : Txt K mg a) : FnOk P w K mg base (L2.CX P w) 6 a.f_unlike a.d_unlike ["one", "other"] (spW2 (fun x y => PySem.Builtin.bitXor x y) fun x y => W16 x ∧ W16 y) := by
  refine T.F_unlike.okX sc_unlike (fun vs H Q E h => ?_) (fun cdv A outer s H vs Q E hr h => ?_)
  · obtain ⟨_, _, rfl, _⟩ := h
    rfl
  · obtain ⟨x, y, rfl, ⟨hx, hy⟩, q⟩ := h
    refine ⟨_, (pss_cons (ps_expr (pe_call (ok_two_words T) (hr.mono (by decide)) (by rfl) T.m_two_words T.F_two_words.kp T.b_two_words .nil passL (pa_cons (pv 0) (pa_cons (pv 1) pa_nil))))
      (pss_one (ps_ret (pe_op op_xor (pv 0) (pv 1))))), ?_⟩
    refine w_in (σ := [some (.int x), some (.int y)]) rfl ?_
    repeat (walk_at "st")
    refine ⟨x, y, rfl, ⟨hx, hy⟩, ?_⟩
    obtain ⟨hx0, hx1⟩ := id hx
    repeat (walk_at "st")
    exact q
theorem ok_shifted_up (T : Txt K mg a) : FnOk P w K mg base (L2.CX P w) 5 a.f_shifted_up a.d_shifted_up ["one", "many"] (spW2 (fun x m => if m < 16 then x * 2 ^ m.toNat % 65536 else 0) fun x m => W16 x ∧ W16 m) := by
  refine T.F_shifted_up.okX sc_shifted_up (fun vs H Q E h => ?_) (fun cdv A outer s H vs Q E hr h => ?_)
  · obtain ⟨_, _, rfl, _⟩ := h
    rfl
  · obtain ⟨x, m, rfl, ⟨hx, hm⟩, q⟩ := h
    obtain ⟨hx0, hx1⟩ := id hx
    obtain ⟨hm0, hm1⟩ := id hm
    refine ⟨_, (pss_cons (ps_expr (pe_call (ok_want_word T) (hr.mono (by decide)) (by rfl) T.m_want_word T.F_want_word.kp T.b_want_word .nil passL (pa_cons (pv 0) pa_nil)))
      (pss_cons (ps_expr (pe_call (ok_want_many T) (hr.mono (by decide)) (by rfl) T.m_want_many T.F_want_many.kp T.b_want_many .nil passL (pa_cons (pv 1) (pa_cons pe_int (pa_cons (pe_op op_sub (pe_glob (v := .int 65536) (by rfl) T.v_MOST_WORD ⟨_, rfl⟩) pe_int) pa_nil)))))
      (pss_one (ps_ret (pe_ifExp (pt_cmpR op_lt (pv 1) (pe_glob (v := .int 16) (by rfl) T.v_BITS ⟨_, rfl⟩) (nomark _)) (pe_op op_mod (pe_op op_shl (pv 0) (pv 1)) (pe_glob (v := .int 65536) (by rfl) T.v_MOST_WORD ⟨_, rfl⟩)) pe_int))))), ?_⟩
    refine w_in (σ := [some (.int x), some (.int m)]) rfl ?_
    repeat (walk_at "st")
    refine w_wantWord hx ?_
    repeat (walk_at "st")
    refine w_wantMany hm0 hm0 (by omega) ?_
    repeat (walk_at "st")
    refine ifS (fun h => ?_) (fun h => ?_)
    · repeat (walk_at "st")
      simp only [if_pos h] at q
      exact q
    · repeat (walk_at "st")
      simp only [if_neg h] at q
      exact q
theorem ok_shifted_down (T : Txt K mg a) : FnOk P w K mg base (L2.CX P w) 5 a.f_shifted_down a.d_shifted_down ["one", "many"] (spW2 (fun x m => if m < 16 then x / 2 ^ m.toNat else 0) fun x m => W16 x ∧ W16 m) := by
  refine T.F_shifted_down.okX sc_shifted_down (fun vs H Q E h => ?_) (fun cdv A outer s H vs Q E hr h => ?_)
  · obtain ⟨_, _, rfl, _⟩ := h
    rfl
  · obtain ⟨x, m, rfl, ⟨hx, hm⟩, q⟩ := h
    obtain ⟨hx0, hx1⟩ := id hx
    obtain ⟨hm0, hm1⟩ := id hm
    refine ⟨_, (pss_cons (ps_expr (pe_call (ok_want_word T) (hr.mono (by decide)) (by rfl) T.m_want_word T.F_want_word.kp T.b_want_word .nil passL (pa_cons (pv 0) pa_nil)))
      (pss_cons (ps_expr (pe_call (ok_want_many T) (hr.mono (by decide)) (by rfl) T.m_want_many T.F_want_many.kp T.b_want_many .nil passL (pa_cons (pv 1) (pa_cons pe_int (pa_cons (pe_op op_sub (pe_glob (v := .int 65536) (by rfl) T.v_MOST_WORD ⟨_, rfl⟩) pe_int) pa_nil)))))
      (pss_one (ps_ret (pe_ifExp (pt_cmpR op_lt (pv 1) (pe_glob (v := .int 16) (by rfl) T.v_BITS ⟨_, rfl⟩) (nomark _)) (pe_op op_shr (pv 0) (pv 1)) pe_int))))), ?_⟩
    refine w_in (σ := [some (.int x), some (.int m)]) rfl ?_
    repeat (walk_at "st")
    refine w_wantWord hx ?_
    repeat (walk_at "st")
    refine w_wantMany hm0 hm0 (by omega) ?_
    repeat (walk_at "st")
    refine ifS (fun h => ?_) (fun h => ?_)
    · repeat (walk_at "st")
      simp only [if_pos h] at q
      exact q
    · repeat (walk_at "st")
      simp only [if_neg h] at q
      exact q
theorem ok_signed (T : Txt K mg a) : FnOk P w K mg base (L2.CX P w) 5 a.f_signed a.d_signed ["word"] (spI1 (fun x => if x < 65536 / 2 then x else x - 65536) W16) := by
  refine T.F_signed.okX sc_signed (fun vs H Q E h => ?_) (fun cdv A outer s H vs Q E hr h => ?_)
  · obtain ⟨_, rfl, _⟩ := h
    rfl
  · obtain ⟨x, rfl, hx, q⟩ := h
    refine ⟨_, (pss_cons (ps_expr (pe_call (ok_want_word T) (hr.mono (by decide)) (by rfl) T.m_want_word T.F_want_word.kp T.b_want_word .nil passL (pa_cons (pv 0) pa_nil)))
      (pss_one (ps_ret (pe_ifExp (pt_cmpR op_lt (pv 0) (pe_op op_fdiv (pe_glob (v := .int 65536) (by rfl) T.v_MOST_WORD ⟨_, rfl⟩) pe_int) (nomark _)) (pv 0) (pe_op op_sub (pv 0) (pe_glob (v := .int 65536) (by rfl) T.v_MOST_WORD ⟨_, rfl⟩)))))), ?_⟩
    refine w_in (σ := [some (.int x)]) rfl ?_
    repeat (walk_at "st")
    refine w_wantWord hx ?_
    repeat (walk_at "st")
    refine ifS (fun h => ?_) (fun h => ?_)
    · repeat (walk_at "st")
      simp only [if_pos h] at q
      exact q
    · repeat (walk_at "st")
      simp only [if_neg h] at q
      exact q
theorem ok_bits (T : Txt K mg a) : FnOk P w K mg base (L2.CX P w) 5 a.f_bits a.d_bits ["word", "low", "many"] (spI3 (fun w lo m => w / 2 ^ lo.toNat % 2 ^ m.toNat) fun w lo m => W16 w ∧ 0 ≤ lo ∧ lo < 16 ∧ 1 ≤ m ∧ lo + m ≤ 16) := by
  refine T.F_bits.okX sc_bits (fun vs H Q E h => ?_) (fun cdv A outer s H vs Q E hr h => ?_)
  · obtain ⟨_, _, _, rfl, _⟩ := h
    rfl
  · obtain ⟨x, lo, m, rfl, ⟨hx, h0, h1, h2, h3⟩, q⟩ := h
    refine ⟨_, (pss_cons (ps_expr (pe_call (ok_want_word T) (hr.mono (by decide)) (by rfl) T.m_want_word T.F_want_word.kp T.b_want_word .nil passL (pa_cons (pv 0) pa_nil)))
      (pss_cons (ps_if (PW.pt (pw_or (pt_not (pt_val (pe_call (ok_is_count T) (hr.mono (by decide)) (by rfl) T.m_is_count T.F_is_count.kp T.b_is_count .nil passL (pa_cons (pv 1) pa_nil)))) (pw_or1 (pt_cmpR op_ge (pv 1) (pe_glob (v := .int 16) (by rfl) T.v_BITS ⟨_, rfl⟩) (nomark _))))) (pss_one ps_never) pss_nil)
      (pss_cons (ps_expr (pe_call (ok_want_many T) (hr.mono (by decide)) (by rfl) T.m_want_many T.F_want_many.kp T.b_want_many .nil passL (pa_cons (pv 2) (pa_cons pe_int (pa_cons (pe_op op_sub (pe_glob (v := .int 16) (by rfl) T.v_BITS ⟨_, rfl⟩) (pv 1)) pa_nil)))))
      (pss_one (ps_ret (pe_call (ok_part_of T) (hr.mono (by decide)) (by rfl) T.m_part_of T.F_part_of.kp T.b_part_of .nil passL (pa_cons (pv 0) (pa_cons (pv 1) (pa_cons (pv 2) pa_nil))))))))), ?_⟩
    refine w_in (σ := [some (.int x), some (.int lo), some (.int m)]) rfl ?_
    repeat (walk_at "st")
    refine w_wantWord hx ?_
    repeat (walk_at "st")
    refine w_or ?_
    repeat (walk_at "st")
    refine ⟨_, rfl, kint_int lo, ?_⟩
    show ∃ c, V.bl (decide (0 ≤ lo)) = .bl c ∧ _
    repeat (walk_at "st")
    refine ifT' h0 ?_
    repeat (walk_at "st")
    refine ifF (by omega) ?_
    repeat (walk_at "st")
    refine w_wantMany (by omega) h2 (by omega) ?_
    repeat (walk_at "st")
    exact ⟨x, lo, m, rfl, ⟨hx.1, h0, by omega, by omega⟩, q⟩
theorem ok_with_bits (T : Txt K mg a) : FnOk P w K mg base (L2.CX P w) 6 a.f_with_bits a.d_with_bits ["word", "low", "many", "value"] (spI4 (fun w lo m v => w % 2 ^ lo.toNat + 2 ^ lo.toNat * v + 2 ^ (lo.toNat + m.toNat) * (w / 2 ^ (lo.toNat + m.toNat))) fun w lo m v => W16 w ∧ 0 ≤ lo ∧ lo < 16 ∧ 1 ≤ m ∧ lo + m ≤ 16 ∧ 0 ≤ v ∧ v < 2 ^ m.toNat) := by
  refine T.F_with_bits.okX sc_with_bits (fun vs H Q E h => ?_) (fun cdv A outer s H vs Q E hr h => ?_)
  · obtain ⟨_, _, _, _, rfl, _⟩ := h
    rfl
  · obtain ⟨x, lo, m, v, rfl, ⟨hx, h0, h1, h2, h3, h4, h5⟩, q⟩ := h
    refine ⟨_, (pss_cons (ps_expr (pe_call (ok_bits T) (hr.mono (by decide)) (by rfl) T.m_bits T.F_bits.kp T.b_bits .nil passL (pa_cons (pv 0) (pa_cons (pv 1) (pa_cons (pv 2) pa_nil)))))
      (pss_cons (ps_if (PW.pt (pw_or (pt_not (pt_val (pe_call (ok_is_count T) (hr.mono (by decide)) (by rfl) T.m_is_count T.F_is_count.kp T.b_is_count .nil passL (pa_cons (pv 3) pa_nil)))) (pw_or1 (pt_cmpR op_ne (pe_op op_shr (pv 3) (pv 2)) pe_int (nomark _))))) (pss_one ps_never) pss_nil)
      (pss_one (ps_ret (pe_call (ok_put_part T) (hr.mono (by decide)) (by rfl) T.m_put_part T.F_put_part.kp T.b_put_part .nil passL (pa_cons (pv 0) (pa_cons (pv 1) (pa_cons (pv 2) (pa_cons (pv 3) pa_nil))))))))), ?_⟩
    refine w_in (σ := [some (.int x), some (.int lo), some (.int m), some (.int v)]) rfl ?_
    repeat (walk_at "st")
    refine ⟨x, lo, m, rfl, ⟨hx, h0, h1, h2, h3⟩, ?_⟩
    repeat (walk_at "st")
    refine w_or ?_
    repeat (walk_at "st")
    refine ⟨_, rfl, kint_int v, ?_⟩
    show ∃ c, V.bl (decide (0 ≤ v)) = .bl c ∧ _
    repeat (walk_at "st")
    refine ifT' h4 ?_
    repeat (walk_at "st")
    refine ifT' (by rw [Int.ediv_eq_zero_of_lt h4 h5]) ?_
    repeat (walk_at "st")
    exact ⟨x, lo, m, v, rfl, ⟨hx, h0, by omega, h3, h4, h5⟩, q⟩
theorem ok__law_pot (T : Txt K mg a) : FnOk P w K mg base (L2.CX P w) 1 a.f__law_pot a.d__law_pot ["_law_script", "_law_k"] (spPot K) := by
  refine T.F__law_pot.okX sc__law_pot (fun vs H Q E h => ?_) (fun cdv A outer s H vs Q E hr h => ?_)
  · obtain ⟨_, _, _, rfl, _⟩ := h
    rfl
  · obtain ⟨sa, ns, k, rfl, hS, hk0, hk1, q⟩ := h
    refine ⟨_, (pss_cons (ps_set (i := 2) sc__law_pot.nd rfl (Or.inl rfl) (pe_op op_add (pe_op op_mul pe_int (pv 1)) pe_int))
      (pss_cons (ps_if (pt_cmpR op_lt (pv 1) (pe_callB call_len_seq (by rfl) T.z_len (by decide +kernel) (pa_cons (pv 0) pa_nil)) (nomark _)) (pss_one (ps_set (i := 2) sc__law_pot.nd rfl (Or.inl rfl) (pe_callB call_abs (by rfl) T.z_abs (by decide +kernel) (pa_cons (pe_ix ix_list (pv 0) (pv 1) (fun _ _ => rfl)) pa_nil)))) pss_nil)
      (pss_one (ps_ret (pe_lst (pa_cons (pe_callB (call_max2 rfl) (by rfl) T.z_max (by decide +kernel) (pa_cons pe_int (pa_cons (pe_op op_sub (pv 2) (pe_op op_pow pe_int pe_int)) pa_nil))) (pa_cons (pe_op op_add (pe_op op_mod (pe_callTy call_int1 (by rfl) T.z_int (by decide +kernel) (pa_cons (pe_op op_add (pe_op op_mul (pe_op op_mod (pe_callTy call_int1 (by rfl) T.z_int (by decide +kernel) (pa_cons (pv 2) pa_nil)) pe_int) (pe_op op_add (pe_op op_mul pe_int (pv 1)) pe_int)) pe_int) pa_nil)) pe_int) pe_int) pa_nil))))))), ?_⟩
    refine w_in (σ := [some (.ref sa), some (.int k), none]) rfl ?_
    repeat (walk_at "st")
    refine ifS (fun h => ?_) (fun h => ?_)
    · obtain ⟨n, _, e, _⟩ := atI_ints hk0 h
      repeat (walk_at "st")
      intro p np
      exact q p _ (same_new np) np ⟨_, _, upd_same, by split <;> omega, by omega, by omega⟩
    · repeat (walk_at "st")
      intro p np
      exact q p _ (same_new np) np ⟨_, _, upd_same, by split <;> omega, by omega, by omega⟩
theorem ok__law_draw (T : Txt K mg a) : FnOk P w K mg base (L2.CX P w) 1 a.f__law_draw a.d__law_draw ["_law_pot_here", "_law_size"] spDraw := by
  refine T.F__law_draw.okX sc__law_draw (fun vs H Q E h => ?_) (fun cdv A outer s H vs Q E hr h => ?_)
  · obtain ⟨_, _, rfl, _⟩ := h
    rfl
  · obtain ⟨p, n, rfl, ⟨x, y, hp, hx, hy, hy2⟩, hn, hn2, q⟩ := h
    refine ⟨_, (pss_cons (ps_if (pt_cmpR op_gt (pe_ix ix_list (pv 0) pe_int (fun _ _ => rfl)) pe_int (nomark _)) (pss_cons (ps_asg (pe_callB call_divmod (by rfl) T.z_divmod (by decide +kernel) (pa_cons (pe_ix ix_list (pv 0) pe_int (fun _ _ => rfl)) (pa_cons (pv 1) pa_nil))) (pg_tup rfl (pgs_cons (pg_sub (pv 0) pe_int set_list) (pgs_cons (pg_name (i := 2) sc__law_draw.nd rfl (Or.inl rfl)) pgs_nil))))
      (pss_one (ps_ret (pv 2)))) pss_nil)
      (pss_cons (ps_asg (pe_op op_mod (pe_callTy call_int1 (by rfl) T.z_int (by decide +kernel) (pa_cons (pe_op op_add (pe_op op_mul (pe_ix ix_list (pv 0) pe_int (fun _ _ => rfl)) pe_int) pe_int) pa_nil)) pe_int) (pg_sub (pv 0) pe_int set_list))
      (pss_one (ps_ret (pe_op op_mod (pe_callTy call_int1 (by rfl) T.z_int (by decide +kernel) (pa_cons (pe_op op_fdiv (pe_op op_mod (pe_callTy call_int1 (by rfl) T.z_int (by decide +kernel) (pa_cons (pe_op op_mul (pe_ix ix_list (pv 0) pe_int (fun _ _ => rfl)) (pe_ix ix_list (pv 0) pe_int (fun _ _ => rfl))) pa_nil)) pe_int) pe_int) pa_nil)) (pv 1)))))), ?_⟩
    refine w_in (σ := [some (.ref p), some (.int n), none]) rfl ?_
    repeat (walk_at "st")
    refine ifS (fun h => ?_) (fun h => ?_)
    · repeat (walk_at "st")
      refine ⟨⟨hn, by omega⟩, fun t nt => ?_⟩
      repeat (walk_at "st")
      exact q _ _ ((Same.chg (same_new nt)).upd) ⟨_, _, upd_same, Int.ediv_nonneg hx (by omega), hy, hy2⟩ (Int.emod_nonneg _ (by omega)) (Int.emod_lt_of_pos _ hn)
    · repeat (walk_at "st")
      exact q _ _ Chg.refl.upd ⟨_, _, upd_same, hx, by omega, by omega⟩ (Int.emod_nonneg _ (by omega)) (Int.emod_lt_of_pos _ hn)
theorem ok__law_pick (T : Txt K mg a) : FnOk P w K mg base (L2.CX P w) 2 a.f__law_pick a.d__law_pick ["_law_pot_here", "_law_some"] (spPick K) := by
  refine T.F__law_pick.okX sc__law_pick (fun vs H Q E h => ?_) (fun cdv A outer s H vs Q E hr h => ?_)
  · obtain ⟨_, _, _, rfl, _⟩ := h
    rfl
  · obtain ⟨p, l, xs, rfl, hp, hl, hne, hk, h0, h1, q⟩ := h
    refine ⟨_, (pss_one (ps_ret (pe_ix ix_list (pv 1) (pe_call (ok__law_draw T) (hr.mono (by decide)) (by rfl) T.m__law_draw T.F__law_draw.kp T.b__law_draw .nil passL (pa_cons (pv 0) (pa_cons (pe_callB call_len_seq (by rfl) T.z_len (by decide +kernel) (pa_cons (pv 1) pa_nil)) pa_nil))) (fun _ _ => rfl)))), ?_⟩
    refine w_in (σ := [some (.ref p), some (.ref l)]) rfl ?_
    repeat (walk_at "st")
    refine ⟨p, _, rfl, hp, by omega, by omega, fun d H' c hp' d0 d1 => ?_⟩
    obtain ⟨v, hv, e, _⟩ := atI_mem d0 d1
    have hl' := hk H' c
    repeat (walk_at "st")
    exact q v H' c hp' hv
theorem ok__law_word (T : Txt K mg a) : FnOk P w K mg base (L2.CX P w) 3 a.f__law_word a.d__law_word ["_law_pot_here"] spLWord := by
  refine T.F__law_word.okX sc__law_word (fun vs H Q E h => ?_) (fun cdv A outer s H vs Q E hr h => ?_)
  · obtain ⟨_, rfl, _⟩ := h
    rfl
  · obtain ⟨p, rfl, hp, q⟩ := h
    refine ⟨_, (pss_cons (ps_set (i := 1) sc__law_word.nd rfl (Or.inl rfl) (pe_call (ok__law_draw T) (hr.mono (by decide)) (by rfl) T.m__law_draw T.F__law_draw.kp T.b__law_draw .nil passL (pa_cons (pv 0) (pa_cons pe_int pa_nil))))
      (pss_cons (ps_if (pt_cmpR op_eq (pv 1) pe_int (nomark _)) (pss_one (ps_ret (pe_call (ok__law_pick T) (hr.mono (by decide)) (by rfl) T.m__law_pick T.F__law_pick.kp T.b__law_pick .nil passL (pa_cons (pv 0) (pa_cons (pe_lst (pa_cons pe_int (pa_cons pe_int (pa_cons pe_int (pa_cons pe_int (pa_cons pe_int (pa_cons pe_int (pa_cons pe_int (pa_cons pe_int pa_nil))))))))) pa_nil))))) pss_nil)
      (pss_cons (ps_if (pt_cmpR op_eq (pv 1) pe_int (nomark _)) (pss_one (ps_ret (pe_call (ok__law_draw T) (hr.mono (by decide)) (by rfl) T.m__law_draw T.F__law_draw.kp T.b__law_draw .nil passL (pa_cons (pv 0) (pa_cons pe_int pa_nil))))) pss_nil)
      (pss_one (ps_ret (pe_call (ok__law_draw T) (hr.mono (by decide)) (by rfl) T.m__law_draw T.F__law_draw.kp T.b__law_draw .nil passL (pa_cons (pv 0) (pa_cons pe_int pa_nil)))))))), ?_⟩
    refine w_in (σ := [some (.ref p), none]) rfl ?_
    repeat (walk_at "st")
    refine ⟨p, 4, rfl, hp, by decide, by decide, fun d H1 c1 hp1 d0 d1 => ?_⟩
    repeat (walk_at "st")
    refine ifS (fun h => ?_) (fun h => ?_)
    · repeat (walk_at "st")
      intro l nl
      have hpl := hp1.ne nl
      repeat (walk_at "st")
      refine ⟨p, l, _, rfl, hp1.new nl, SqL.of upd_same, hpl.symm, fun H5 c5 => SqL.of (c5 _ _ upd_same hpl.symm), Nat.le_of_ble_eq_true rfl, Nat.le_of_ble_eq_true rfl, fun v H3 c3 hp3 hv => ?_⟩
      obtain ⟨m, rfl, hm⟩ : ∃ m : Int, v = .int m ∧ W16 m := by
        simp only [List.mem_cons, List.not_mem_nil, or_false] at hv
        rcases hv with h | h | h | h | h | h | h | h <;> exact ⟨_, h, by constructor <;> omega⟩
      exact q m H3 ((c1.same (same_new nl)).trans c3) hp3 hm
    · repeat (walk_at "st")
      refine ifS (fun h => ?_) (fun h => ?_)
      · repeat (walk_at "st")
        exact ⟨p, 20, rfl, hp1, by decide, by decide, fun x H2 c2 hp2 x0 x1 => q x H2 (c1.trans c2) hp2 ⟨x0, by omega⟩⟩
      · repeat (walk_at "st")
        exact ⟨p, 65536, rfl, hp1, by decide, by decide, fun x H2 c2 hp2 x0 x1 => q x H2 (c1.trans c2) hp2 ⟨x0, x1⟩⟩
theorem ok__law_list (T : Txt K mg a) : FnOk P w K mg base (L2.CX P w) 1 a.f__law_list a.d__law_list ["_law_word_here"] spLList := by
  refine T.F__law_list.okX sc__law_list (fun vs H Q E h => ?_) (fun cdv A outer s H vs Q E hr h => ?_)
  · obtain ⟨_, rfl, _⟩ := h
    rfl
  · obtain ⟨x, rfl, q⟩ := h
    refine ⟨_, (pss_cons (ps_set (i := 1) sc__law_list.nd rfl (Or.inl rfl) (pe_lst pa_nil))
      (pss_cons (ps_for (passes_of rfl) rfl (pi_range1 (by rfl) T.z_range (pa_cons pe_int pa_nil)) (pg_name (i := 2) sc__law_list.nd rfl (Or.inl rfl))
      (pss_cons (ps_expr (pe_bm PySem.F.plainAttrs_list PySem.F.slot_list_append PySem.F.type_list_append mt_append (pv 1) (pa_cons (pe_op op_mod (pv 0) pe_int) pa_nil)))
      (pss_one (ps_set (i := 0) sc__law_list.nd rfl (Or.inl rfl) (pe_op op_fdiv (pv 0) pe_int)))))
      (pss_one (ps_ret (pv 1))))), ?_⟩
    refine w_in (σ := [some (.int x), none, none]) rfl ?_
    repeat (walk_at "st")
    intro l nl
    repeat (walk_at "st")
    refine w_range1 (fun i σ H' => ∃ v2, σ = [some (.int (x / 2 ^ i)), some (.ref l), v2] ∧ Same H H' ∧ H' l = some (.lst ((bitsL i x).map V.int)) ∧ i ≤ 16) (by decide)
      ⟨none, by simp, same_new nl, upd_same, by decide⟩ (fun i σ H' hi ⟨v2, e, s, hl, h16⟩ => ?_) (fun σ H' ⟨v2, e, s, hl, h16⟩ => ?_)
    · subst e
      have hz := bitsL_len i x
      repeat (walk_at "st")
      refine ⟨_, by rw [ediv_two]; rfl, same_updF s nl, ?_, by omega⟩
      rw [upd_same, bits_snoc, List.map_append]
      rfl
    · subst e
      repeat (walk_at "st")
      exact q l _ s nl hl
theorem ok__law_of (T : Txt K mg a) : FnOk P w K mg base (L2.CX P w) 1 a.f__law_of a.d__law_of ["_law_row"] (spLOf K) := by
  refine T.F__law_of.okX sc__law_of (fun vs H Q E h => ?_) (fun cdv A outer s H vs Q E hr h => ?_)
  · obtain ⟨_, _, rfl, _⟩ := h
    rfl
  · obtain ⟨l, xs, rfl, hl, q⟩ := h
    refine ⟨_, (pss_cons (ps_set (i := 1) sc__law_of.nd rfl (Or.inl rfl) pe_int)
      (pss_cons (ps_for (passes_of rfl) rfl (pi_list (pe_revL (pv 0))) (pg_name (i := 2) sc__law_of.nd rfl (Or.inl rfl))
      (pss_one (ps_set (i := 1) sc__law_of.nd rfl (Or.inl rfl) (pe_op op_add (pe_op op_mul (pv 1) pe_int) (pv 2)))))
      (pss_one (ps_ret (pv 1))))), ?_⟩
    refine w_in (σ := [some (.ref l), none, none]) rfl ?_
    repeat (walk_at "st")
    intro r nr
    refine w_list (K := K) (fun i σ H' => ∃ v2, σ = [some (.ref l), some (.int (ofL (xs.drop (xs.length - i)))), v2] ∧ Same H H' ∧ H' r = some (.lst (xs.map V.int).reverse)) (SqL.of upd_same)
      ⟨none, by simp [ofL], same_new nr, upd_same⟩ (fun i σ H' _ ⟨_, _, _, h⟩ => SqL.of h) (fun i y σ H' hy ⟨v2, e, s, hr⟩ => ?_) (fun σ H' ⟨v2, e, s, hr⟩ => ?_)
    · subst e
      have hi : i < xs.length := by
        have := (List.getElem?_eq_some_iff.mp hy).1
        simpa using this
      rw [List.getElem?_reverse (by simpa using hi), List.length_map] at hy
      obtain ⟨n, hn, rfl⟩ := map_getI hy
      repeat (walk_at "st")
      exact ⟨_, by rw [of_cons xs i n hn hi]; rfl, s, hr⟩
    · subst e
      repeat (walk_at "st")
      have e : xs.drop (xs.length - (xs.map V.int).reverse.length) = xs := by simp
      rw [e]
      exact q _ s
theorem ok__law_added (T : Txt K mg a) : FnOk P w K mg base (L2.CX P w) 1 a.f__law_added a.d__law_added ["_law_one", "_law_other", "_law_carry"] (spLAdded K) := by
  refine T.F__law_added.okX sc__law_added (fun vs H Q E h => ?_) (fun cdv A outer s H vs Q E hr h => ?_)
  · obtain ⟨_, _, _, _, _, rfl, _⟩ := h
    rfl
  · obtain ⟨a1, b1, xs, ys, c, rfl, ha, hb, hlen, h100, q⟩ := h
    refine ⟨_, (pss_cons (ps_set (i := 3) sc__law_added.nd rfl (Or.inl rfl) (pe_lst pa_nil))
      (pss_cons (ps_for (passes_of rfl) rfl (pi_zip (by rfl) T.z_zip (pa_cons (pv 0) (pa_cons (pv 1) pa_nil))) (pg_tup rfl (pgs_cons (pg_name (i := 4) sc__law_added.nd rfl (Or.inl rfl)) (pgs_cons (pg_name (i := 5) sc__law_added.nd rfl (Or.inl rfl)) pgs_nil)))
      (pss_cons (ps_set (i := 6) sc__law_added.nd rfl (Or.inl rfl) (pe_op op_add (pe_op op_add (pv 4) (pv 5)) (pv 2)))
      (pss_cons (ps_expr (pe_bm PySem.F.plainAttrs_list PySem.F.slot_list_append PySem.F.type_list_append mt_append (pv 3) (pa_cons (pe_op op_mod (pv 6) pe_int) pa_nil)))
      (pss_one (ps_set (i := 2) sc__law_added.nd rfl (Or.inl rfl) (pe_op op_fdiv (pv 6) pe_int))))))
      (pss_one (ps_ret (pv 3))))), ?_⟩
    refine w_in (σ := [some (.ref a1), some (.ref b1), some (.int c), none, none, none, none]) rfl ?_
    repeat (walk_at "st")
    intro l nl
    have ha' := (same_new (o := .lst []) nl).seq ha
    have hb' := (same_new (o := .lst []) nl).seq hb
    repeat (walk_at "st")
    refine w_loop (walk_zip (n := xs.length) (by simp [hlen])) (fun i σ H' => ∃ v4 v5 v6 c' acc, σ = [some (.ref a1), some (.ref b1), some (.int c'), some (.ref l), v4, v5, v6] ∧ Same H H' ∧ H' l = some (.lst (acc.map V.int)) ∧ acc.length = i ∧ addL xs ys c = acc ++ addL (xs.drop i) (ys.drop i) c')
      ⟨none, none, none, c, [], rfl, same_new nl, upd_same, rfl, by simp⟩ (fun i σ H' _ ⟨_, _, _, _, _, _, s, _⟩ => ⟨s.seq ha, s.seq hb⟩) (fun i x σ H' H'' hi ⟨v4, v5, v6, c', acc, e, s, hl, hn, hacc⟩ hy => ?_) (fun σ H' ⟨v4, v5, v6, c', acc, e, s, hl, hn, hacc⟩ => ?_)
    · subst e
      obtain ⟨t, x, y, rfl, nt, rfl, hx, hy⟩ := hy
      obtain ⟨p1, hp1, rfl⟩ := map_getI hx
      obtain ⟨q1, hq1, rfl⟩ := map_getI hy
      have lt : l ≠ t := ne_of_none hl nt
      repeat (walk_at "st")
      refine ⟨_, _, _, _, acc ++ [(p1 + q1 + c') % 2], rfl, same_updF (s.trans (same_new nt)) nl, by rw [upd_same, List.map_append]; rfl, by simp [hn], ?_⟩
      obtain ⟨h1, h2⟩ := List.getElem?_eq_some_iff.mp hp1
      obtain ⟨h3, h4⟩ := List.getElem?_eq_some_iff.mp hq1
      rw [hacc, List.drop_eq_getElem_cons h1, List.drop_eq_getElem_cons h3, h2, h4]
      simp [addL]
    · subst e
      repeat (walk_at "st")
      have e2 : addL xs ys c = acc := by
        rw [hacc]
        simp [addL]
      rw [← e2] at hl
      exact q l _ s nl hl
theorem ok__law_times (T : Txt K mg a) : FnOk P w K mg base (L2.CX P w) 2 a.f__law_times a.d__law_times ["_law_one", "_law_other"] (spLTimes K) := by
  refine T.F__law_times.okX sc__law_times (fun vs H Q E h => ?_) (fun cdv A outer s H vs Q E hr h => ?_)
  · obtain ⟨_, _, _, _, rfl, _⟩ := h
    rfl
  · obtain ⟨a1, b1, x, y, rfl, ha, hb, hx, hy, q⟩ := h
    refine ⟨_, (pss_cons (ps_set (i := 2) sc__law_times.nd rfl (Or.inl rfl) (pe_op op_rep (pe_lst (pa_cons pe_int pa_nil)) pe_int))
      (pss_cons (ps_for (passes_of rfl) rfl (pi_enum (by rfl) T.z_enumerate (pa_cons (pv 1) pa_nil)) (pg_tup rfl (pgs_cons (pg_name (i := 3) sc__law_times.nd rfl (Or.inl rfl)) (pgs_cons (pg_name (i := 4) sc__law_times.nd rfl (Or.inl rfl)) pgs_nil)))
      (pss_one (ps_if (pt_cmpR op_eq (pv 4) pe_int (nomark _)) (pss_one (ps_set (i := 2) sc__law_times.nd rfl (Or.inl rfl) (pe_call (ok__law_added T) (hr.mono (by decide)) (by rfl) T.m__law_added T.F__law_added.kp T.b__law_added .nil passL (pa_cons (pv 2) (pa_cons (pe_slice sl_list (pe_op op_cat (pe_op op_rep (pe_lst (pa_cons pe_int pa_nil)) (pv 3)) (pv 0)) po_none (po_some pe_int)) (pa_cons pe_int pa_nil)))))) pss_nil)))
      (pss_one (ps_ret (pv 2))))), ?_⟩
    refine w_in (σ := [some (.ref a1), some (.ref b1), none, none, none]) rfl ?_
    repeat (walk_at "st")
    intro z nz
    repeat (walk_at "st")
    intro f0 nf0
    have s0 : Same H (upd (upd H z (.lst [.int 0])) f0 (.lst (List.replicate (16 : Int).toNat [V.int 0]).flatten)) := (same_new nz).trans (same_new nf0)
    have hb0 := s0.seq hb
    repeat (walk_at "st")
    refine w_loop walk_enum (fun i σ H' => ∃ v3 v4 f rs, σ = [some (.ref a1), some (.ref b1), some (.ref f), v3, v4] ∧ Same H H' ∧ H f = none ∧ H' f = some (.lst (rs.map V.int)) ∧ rs.length = 16 ∧ ofL rs = x * (y % 2 ^ i) % 65536 ∧ i ≤ 16)
      ⟨none, none, f0, List.replicate 16 0, rfl, s0, (same_new nz).free nf0, upd_same, rfl, by simp [ofL, Int.emod_one], by decide⟩ (fun i σ H' _ ⟨_, _, _, _, _, s, _⟩ => s.seq hb) (fun i v σ H' H'' hi ⟨v3, v4, f, rs, e, s, nf, hf, hl, ho, h16⟩ hy' => ?_) (fun σ H' ⟨v3, v4, f, rs, e, s, nf, hf, hl, ho, h16⟩ => ?_)
    · subst e
      rw [List.length_map, bitsL_len] at hi
      obtain ⟨t, _, w2, rfl, nt, rfl, e1, e2⟩ := hy'
      cases e1
      obtain ⟨n, hn, rfl⟩ := map_getI e2
      rw [bits_get 16 i y hi] at hn
      cases hn
      have ft : f ≠ t := ne_of_none hf nt
      have hft : upd H' t (.tup [.int i, .int (y / 2 ^ i % 2)]) f = some (.lst (rs.map V.int)) := (same_new nt) _ _ hf
      have st : Same H (upd H' t (.tup [.int i, .int (y / 2 ^ i % 2)])) := s.trans (same_new nt)
      repeat (walk_at "st")
      rw [dec_vint]
      refine ifS (fun h1 => ?_) (fun h1 => ?_)
      · repeat (walk_at "st")
        intro z1 nz1
        repeat (walk_at "st")
        intro z2 nz2
        have st1 := same_upd (o := .lst [V.int 0]) st nz1
        have st2 := same_upd (o := .lst (List.replicate ((i : Nat) : Int).toNat [V.int 0]).flatten) st1 nz2
        have ha2 := st2 _ _ ha
        have rz : (List.replicate ((i : Nat) : Int).toNat [V.int 0]).flatten.length ≤ 16 := by simp; omega
        have bz : ((bitsL 16 x).map V.int).length = 16 := by simp [bitsL_len]
        repeat (walk_at "st")
        intro z3 nz3
        repeat (walk_at "st")
        intro z4 nz4
        repeat (walk_at "st")
        have st3 := same_upd (o := .lst ((List.replicate ((i : Nat) : Int).toNat [V.int 0]).flatten ++ (bitsL 16 x).map V.int)) st2 nz3
        have f4 := (same_new (o := .lst (cutV ((List.replicate ((i : Nat) : Int).toNat [V.int 0]).flatten ++ (bitsL 16 x).map V.int) none (some 16))) nz4) _ _ ((same_new (o := .lst ((List.replicate ((i : Nat) : Int).toNat [V.int 0]).flatten ++ (bitsL 16 x).map V.int)) nz3) _ _ ((same_new (o := .lst (List.replicate ((i : Nat) : Int).toNat [V.int 0]).flatten) nz2) _ _ ((same_new (o := .lst [V.int 0]) nz1) _ _ hft)))
        have ecut : cutV ((List.replicate ((i : Nat) : Int).toNat [V.int 0]).flatten ++ (bitsL 16 x).map V.int) none (some 16) = ((List.replicate i 0 ++ bitsL 16 x).take 16).map V.int := by
          rw [cut_to (by decide), List.map_take, List.map_append, List.map_replicate, flat_rep]
          rfl
        have zlen : ((List.replicate i 0 ++ bitsL 16 x).take 16).length = 16 := by simp [bitsL_len]
        refine ⟨f, z4, rs, (List.replicate i 0 ++ bitsL 16 x).take 16, 0, rfl, SqL.of f4, SqL.of (upd_same.trans (by rw [ecut])), by rw [hl, zlen], by omega, fun p H5 s5 np h5 => ?_⟩
        repeat (walk_at "st")
        have st4 := (same_upd (o := .lst (cutV ((List.replicate ((i : Nat) : Int).toNat [V.int 0]).flatten ++ (bitsL 16 x).map V.int) none (some 16))) st3 nz4)
        refine ⟨_, _, p, _, rfl, st4.trans s5, st4.free np, h5, by rw [add_len _ _ _ (by rw [hl, zlen]), hl], ?_, by omega⟩
        rw [of_add _ _ _ (by rw [hl, zlen]), hl, ho, shl_list x i (by omega), Int.add_zero, pow_split y i, h1, Int.mul_one, Int.mul_add]
        exact (Int.add_emod _ _ _).symm
      · repeat (walk_at "st")
        refine ⟨_, _, f, rs, rfl, st, nf, hft, hl, ?_, by omega⟩
        rw [ho, pow_split y i, show y / 2 ^ i % 2 = 0 by omega]
        simp
    · subst e
      repeat (walk_at "st")
      refine q rs hl ?_ f _ s nf hf
      rw [ho, List.length_map, bitsL_len, show y % 2 ^ 16 = y from Int.emod_eq_of_lt hy.1 hy.2]
theorem ok__law_sums_right (T : Txt K mg a) : FnOk P w K mg base (L2.CX P w) 7 a.f__law_sums_right a.d__law_sums_right ["_law_one", "_law_other"] (spT2 fun x y => W16 x ∧ W16 y) := by
  refine T.F__law_sums_right.okX sc__law_sums_right (fun vs H Q E h => ?_) (fun cdv A outer s H vs Q E hr h => ?_)
  · obtain ⟨_, _, rfl, _⟩ := h
    rfl
  · obtain ⟨x, y, rfl, ⟨hx, hy⟩, q⟩ := h
    refine ⟨_, (pss_cons (ps_par (i := 2) (j := 3) rfl sc__law_sums_right.nd rfl rfl (by decide) rfl rfl (pa_cons (pe_call (ok__law_list T) (hr.mono (by decide)) (by rfl) T.m__law_list T.F__law_list.kp T.b__law_list .nil passL (pa_cons (pv 0) pa_nil)) (pa_cons (pe_call (ok__law_list T) (hr.mono (by decide)) (by rfl) T.m__law_list T.F__law_list.kp T.b__law_list .nil passL (pa_cons (pv 1) pa_nil)) pa_nil)) (by rfl))
      (pss_cons (ps_setLc (i := 4) (own := [("_law_bit", 8)]) (g := gName 8) (tt := tYes) rfl sc__law_sums_right.nd rfl rfl (sw_true rfl rfl rfl (by decide +kernel)) (pi_list (pv 3)) (blkOk_by (N := ["_law_one", "_law_other", "_law_near", "_law_far", "_law_turned", "_law_told", "_law_due", "_law_found", "_law_bit", "_law_row", "_law_a", "_law_b"]) (sc := defScope s__law_sums_right) (by decide +kernel)) (fun _ _ _ _ _ => (pg_name (i := 8) sc__law_sums_right.nd rfl (Or.inl rfl))) (fun _ _ _ _ _ => pts_nil) (fun _ _ _ _ _ => (pe_op op_sub pe_int (pv 8))))
      (pss_cons (ps_set (i := 5) sc__law_sums_right.nd rfl (Or.inl rfl) (pe_lst (pa_cons (pe_call (ok_plus T) (hr.mono (by decide)) (by rfl) T.m_plus T.F_plus.kp T.b_plus .nil passL (pa_cons (pv 0) (pa_cons (pv 1) pa_nil))) (pa_cons (pe_call (ok_minus T) (hr.mono (by decide)) (by rfl) T.m_minus T.F_minus.kp T.b_minus .nil passL (pa_cons (pv 0) (pa_cons (pv 1) pa_nil))) (pa_cons (pe_callN0 (ok_times T) (hr.mono (by decide)) (by rfl) T.m_times T.F_times.kp T.kb_times_0_one_other passL (pk_cons (pv 0) (pk_cons (pv 1) pk_nil))) pa_nil)))))
      (pss_cons (ps_set (i := 6) sc__law_sums_right.nd rfl (Or.inl rfl) (pe_lst (pa_cons (pe_call (ok__law_added T) (hr.mono (by decide)) (by rfl) T.m__law_added T.F__law_added.kp T.b__law_added .nil passL (pa_cons (pv 2) (pa_cons (pv 3) (pa_cons pe_int pa_nil)))) (pa_cons (pe_call (ok__law_added T) (hr.mono (by decide)) (by rfl) T.m__law_added T.F__law_added.kp T.b__law_added .nil passL (pa_cons (pv 2) (pa_cons (pv 4) (pa_cons pe_int pa_nil)))) (pa_cons (pe_call (ok__law_times T) (hr.mono (by decide)) (by rfl) T.m__law_times T.F__law_times.kp T.b__law_times .nil passL (pa_cons (pv 2) (pa_cons (pv 3) pa_nil))) pa_nil)))))
      (pss_cons (ps_if (pt_cmpR (op_neD hr.units) (pv 5) (pe_lc (own := [("_law_row", 9)]) (g := gName 9) (tt := tYes) rfl sc__law_sums_right.nd (pi_list (pv 6)) (blkOk_by (N := ["_law_one", "_law_other", "_law_near", "_law_far", "_law_turned", "_law_told", "_law_due", "_law_found", "_law_bit", "_law_row", "_law_a", "_law_b"]) (sc := defScope s__law_sums_right) (by decide +kernel)) (fun _ _ _ _ _ => (pg_name (i := 9) sc__law_sums_right.nd rfl (Or.inl rfl))) (fun _ _ _ _ _ => pts_nil) (fun _ _ _ _ _ => (pe_call (ok__law_of T) (hr.mono (by decide)) (by rfl) T.m__law_of T.F__law_of.kp T.b__law_of .nil passL (pa_cons (pv 9) pa_nil)))) (nomark _)) (pss_one (ps_ret pe_bl)) pss_nil)
      (pss_cons (ps_if (PW.pt (pw_or (pt_cmpR op_ne (pe_call (ok_plus T) (hr.mono (by decide)) (by rfl) T.m_plus T.F_plus.kp T.b_plus .nil passL (pa_cons (pe_call (ok_minus T) (hr.mono (by decide)) (by rfl) T.m_minus T.F_minus.kp T.b_minus .nil passL (pa_cons (pv 0) (pa_cons (pv 1) pa_nil))) (pa_cons (pv 1) pa_nil))) (pv 0) (nomark _)) (pw_or1 (pt_cmpR op_ne (pe_call (ok_minus T) (hr.mono (by decide)) (by rfl) T.m_minus T.F_minus.kp T.b_minus .nil passL (pa_cons pe_int (pa_cons (pe_call (ok_minus T) (hr.mono (by decide)) (by rfl) T.m_minus T.F_minus.kp T.b_minus .nil passL (pa_cons pe_int (pa_cons (pv 0) pa_nil))) pa_nil))) (pv 0) (nomark _))))) (pss_one (ps_ret pe_bl)) pss_nil)
      (Evl.pss_cut (ps_if (pt_cmpR op_gt (pv 1) pe_int (nomark _)) (pss_cons (ps_set (i := 7) sc__law_sums_right.nd rfl (Or.inl rfl) (pe_call (ok_over T) (hr.mono (by decide)) (by rfl) T.m_over T.F_over.kp T.b_over .nil passL (pa_cons (pv 0) (pa_cons (pv 1) pa_nil))))
      (pss_one (ps_if (pt_not (pt_chain op_le op_lt (pe_op op_mul (pv 7) (pv 1)) (pv 0) (pe_op op_mul (pe_op op_add (pv 7) pe_int) (pv 1)))) (pss_one (ps_ret pe_bl)) pss_nil))) pss_nil)
      (pss_cons (ps_set (i := 5) sc__law_sums_right.nd rfl (Or.inl rfl) (pe_lst (pa_cons (pe_call (ok_both T) (hr.mono (by decide)) (by rfl) T.m_both T.F_both.kp T.b_both .nil passL (pa_cons (pv 0) (pa_cons (pv 1) pa_nil))) (pa_cons (pe_call (ok_either T) (hr.mono (by decide)) (by rfl) T.m_either T.F_either.kp T.b_either .nil passL (pa_cons (pv 0) (pa_cons (pv 1) pa_nil))) (pa_cons (pe_call (ok_unlike T) (hr.mono (by decide)) (by rfl) T.m_unlike T.F_unlike.kp T.b_unlike .nil passL (pa_cons (pv 0) (pa_cons (pv 1) pa_nil))) pa_nil)))))
      (pss_cons (ps_set (i := 6) sc__law_sums_right.nd rfl (Or.inl rfl) (pe_lst (pa_cons (pe_lc (own := [("_law_a", 10), ("_law_b", 11)]) (g := (gTup K 2 (gCons (gName 10) (gCons (gName 11) gNil)))) (tt := tYes) rfl sc__law_sums_right.nd (pi_zip (by rfl) T.z_zip (pa_cons (pv 2) (pa_cons (pv 3) pa_nil))) (blkOk_by (N := ["_law_one", "_law_other", "_law_near", "_law_far", "_law_turned", "_law_told", "_law_due", "_law_found", "_law_bit", "_law_row", "_law_a", "_law_b"]) (sc := defScope s__law_sums_right) (by decide +kernel)) (fun _ _ _ _ _ => by exact (pg_tup rfl (pgs_cons (pg_name (i := 10) sc__law_sums_right.nd rfl (Or.inl rfl)) (pgs_cons (pg_name (i := 11) sc__law_sums_right.nd rfl (Or.inl rfl)) pgs_nil)))) (fun _ _ _ _ _ => pts_nil) (fun _ _ _ _ _ => (pe_op op_mul (pv 10) (pv 11)))) (pa_cons (pe_lc (own := [("_law_a", 10), ("_law_b", 11)]) (g := (gTup K 2 (gCons (gName 10) (gCons (gName 11) gNil)))) (tt := tYes) rfl sc__law_sums_right.nd (pi_zip (by rfl) T.z_zip (pa_cons (pv 2) (pa_cons (pv 3) pa_nil))) (blkOk_by (N := ["_law_one", "_law_other", "_law_near", "_law_far", "_law_turned", "_law_told", "_law_due", "_law_found", "_law_bit", "_law_row", "_law_a", "_law_b"]) (sc := defScope s__law_sums_right) (by decide +kernel)) (fun _ _ _ _ _ => by exact (pg_tup rfl (pgs_cons (pg_name (i := 10) sc__law_sums_right.nd rfl (Or.inl rfl)) (pgs_cons (pg_name (i := 11) sc__law_sums_right.nd rfl (Or.inl rfl)) pgs_nil)))) (fun _ _ _ _ _ => pts_nil) (fun _ _ _ _ _ => (pe_callB (call_max2 rfl) (by rfl) T.z_max (by decide +kernel) (pa_cons (pv 10) (pa_cons (pv 11) pa_nil))))) (pa_cons (pe_lc (own := [("_law_a", 10), ("_law_b", 11)]) (g := (gTup K 2 (gCons (gName 10) (gCons (gName 11) gNil)))) (tt := tYes) rfl sc__law_sums_right.nd (pi_zip (by rfl) T.z_zip (pa_cons (pv 2) (pa_cons (pv 3) pa_nil))) (blkOk_by (N := ["_law_one", "_law_other", "_law_near", "_law_far", "_law_turned", "_law_told", "_law_due", "_law_found", "_law_bit", "_law_row", "_law_a", "_law_b"]) (sc := defScope s__law_sums_right) (by decide +kernel)) (fun _ _ _ _ _ => by exact (pg_tup rfl (pgs_cons (pg_name (i := 10) sc__law_sums_right.nd rfl (Or.inl rfl)) (pgs_cons (pg_name (i := 11) sc__law_sums_right.nd rfl (Or.inl rfl)) pgs_nil)))) (fun _ _ _ _ _ => pts_nil) (fun _ _ _ _ _ => (pe_callB call_abs (by rfl) T.z_abs (by decide +kernel) (pa_cons (pe_op op_sub (pv 10) (pv 11)) pa_nil)))) pa_nil)))))
      (pss_one (ps_ret (pe_and (pe_cmpR (op_eqD hr.units) (pv 5) (pe_lc (own := [("_law_row", 9)]) (g := gName 9) (tt := tYes) rfl sc__law_sums_right.nd (pi_list (pv 6)) (blkOk_by (N := ["_law_one", "_law_other", "_law_near", "_law_far", "_law_turned", "_law_told", "_law_due", "_law_found", "_law_bit", "_law_row", "_law_a", "_law_b"]) (sc := defScope s__law_sums_right) (by decide +kernel)) (fun _ _ _ _ _ => (pg_name (i := 9) sc__law_sums_right.nd rfl (Or.inl rfl))) (fun _ _ _ _ _ => pts_nil) (fun _ _ _ _ _ => (pe_call (ok__law_of T) (hr.mono (by decide)) (by rfl) T.m__law_of T.F__law_of.kp T.b__law_of .nil passL (pa_cons (pv 9) pa_nil)))) (nomark _)) (pe_one (pe_cmpR op_eq (pe_call (ok_plus T) (hr.mono (by decide)) (by rfl) T.m_plus T.F_plus.kp T.b_plus .nil passL (pa_cons (pe_call (ok_both T) (hr.mono (by decide)) (by rfl) T.m_both T.F_both.kp T.b_both .nil passL (pa_cons (pv 0) (pa_cons (pv 1) pa_nil))) (pa_cons (pe_call (ok_either T) (hr.mono (by decide)) (by rfl) T.m_either T.F_either.kp T.b_either .nil passL (pa_cons (pv 0) (pa_cons (pv 1) pa_nil))) pa_nil))) (pe_call (ok_plus T) (hr.mono (by decide)) (by rfl) T.m_plus T.F_plus.kp T.b_plus .nil passL (pa_cons (pv 0) (pa_cons (pv 1) pa_nil))) (nomark _))))))))))))))), ?_⟩
    refine w_in (σ := [some (.int x), some (.int y), none, none, none, none, none, none, none, none, none, none]) rfl ?_
    have fb := fun z : Int => bitsL_len 16 z
    have ox : ofL (bitsL 16 x) = x := by rw [of_bits]; exact Int.emod_eq_of_lt hx.1 hx.2
    have oy : ofL (bitsL 16 y) = y := by rw [of_bits]; exact Int.emod_eq_of_lt hy.1 hy.2
    repeat (walk_at "st")
    refine ⟨x, rfl, fun nl H1 s1 n1 h1 => ?_⟩
    repeat (walk_at "st")
    refine ⟨y, rfl, fun fl H2 s2 n2 h2 => ?_⟩
    repeat (walk_at "st")
    have hz : ((bitsL 16 y).map V.int).length ≤ 100000 := by simp [fb]
    have hnl2 := s2 _ _ h1
    refine lc_L (K := K) (l := fl) (xs := (bitsL 16 y).map V.int) (fun i => .int (1 - y / 2 ^ i % 2)) (fun R r => by walk_at "st"; exact r) (SqL.of h2) hz (fun i v H' R S hi s k => ?_) (fun tl H3 s3 n3 h3 => ?_)
    · obtain ⟨n, hn, rfl⟩ := map_getI hi
      have hi16 : i < 16 := by
        have := (List.getElem?_eq_some_iff.mp hn).1
        rwa [fb] at this
      rw [bits_get 16 i y hi16] at hn
      cases hn
      repeat (walk_at "st")
      exact k _ (Same.refl _)
    · have h3' : H3 tl = some (.lst ((turnL 16 y).map V.int)) := by rw [h3, List.length_map, fb]; rfl
      have hnl3 := s3 _ _ hnl2
      have hfl3 := s3 _ _ h2
      repeat (walk_at "st")
      refine ⟨x, y, rfl, ⟨hx, hy⟩, ?_⟩
      repeat (walk_at "st")
      refine ⟨x, y, rfl, ⟨hx, hy⟩, ?_⟩
      repeat (walk_at "st")
      refine ⟨x, y, rfl, ⟨hx, hy⟩, ?_⟩
      repeat (walk_at "st")
      intro td ntd
      repeat (walk_at "st")
      refine ⟨nl, fl, bitsL 16 x, bitsL 16 y, 0, rfl, SqL.of (by walk_at "hl"), SqL.of (by walk_at "hl"), by simp [fb], by simp [fb], fun r1 H4 s4 n4 h4 => ?_⟩
      have s34 : Same H3 H4 := (same_new ntd).trans s4
      have hnl4 := s34 _ _ hnl3
      have hfl4 := s34 _ _ hfl3
      have htl4 := s34 _ _ h3'
      repeat (walk_at "st")
      refine ⟨nl, tl, bitsL 16 x, turnL 16 y, 1, rfl, SqL.of hnl4, SqL.of htl4, by simp [fb, turnL], by simp [fb], fun r2 H5 s5 n5 h5 => ?_⟩
      have hnl5 := s5 _ _ hnl4
      have hfl5 := s5 _ _ hfl4
      have hr15 := s5 _ _ h4
      repeat (walk_at "st")
      refine ⟨nl, fl, x, y, rfl, hnl5, SqL.of hfl5, hx, hy, fun rs hrs ers r3 H6 s6 n6 h6 => ?_⟩
      have hnl6 := s6 _ _ hnl5
      have hfl6 := s6 _ _ hfl5
      have hr16 := s6 _ _ hr15
      have hr26 := s6 _ _ h5
      have htd6 := s6 _ _ (s5 _ _ (s4 _ _ upd_same))
      repeat (walk_at "st")
      intro du ndu
      have sdu := same_new (o := .lst [V.ref r1, .ref r2, .ref r3]) ndu
      have ha1 : ofL (addL (bitsL 16 x) (bitsL 16 y) 0) = (x + y) % 65536 := by
        rw [of_add _ _ _ (by simp [fb]), fb, ox, oy, Int.add_zero]
        rfl
      have ha2 : ofL (addL (bitsL 16 x) (turnL 16 y) 1) = (x - y) % 65536 := by
        rw [of_add _ _ _ (by simp [fb, turnL]), fb, ox, turn_bits, of_turn, show y % 2 ^ 16 = y from Int.emod_eq_of_lt hy.1 hy.2]
        show (x + (65536 - 1 - y) + 1) % 65536 = _
        omega
      repeat (walk_at "st")
      refine lc_L (K := K) (l := du) (xs := [V.ref r1, .ref r2, .ref r3]) (fun i => .int ([(x + y) % 65536, (x - y) % 65536, x * y % 65536].getD i 0)) (fun R r => by walk_at "st"; exact r) (SqL.of upd_same) (by simp) (fun i v H' R S hi s k => ?_) (fun cl H7 s7 n7 h7 => ?_)
      · have s' := sdu.trans s
        obtain ⟨rw', zs, e1, e2, e3⟩ : ∃ (rw' : Addr) (zs : List Int), v = .ref rw' ∧ H6 rw' = some (.lst (zs.map V.int)) ∧ ofL zs = [(x + y) % 65536, (x - y) % 65536, x * y % 65536].getD i 0 := by
          match i, hi with
          | 0, hi => exact ⟨r1, _, (Option.some.inj hi).symm, hr16, ha1⟩
          | 1, hi => exact ⟨r2, _, (Option.some.inj hi).symm, hr26, ha2⟩
          | 2, hi => exact ⟨r3, _, (Option.some.inj hi).symm, h6, ers⟩
        subst e1
        repeat (walk_at "st")
        refine ⟨rw', zs, rfl, SqL.of (s' _ _ e2), fun H'' s'' => ?_⟩
        rw [e3]
        exact k _ s''
      have h7' : H7 cl = some (.lst ([(x + y) % 65536, (x - y) % 65536, x * y % 65536].map V.int)) := h7
      have s67 := sdu.trans s7
      have htd7 := s67 _ _ htd6
      have hnl7 := s67 _ _ hnl6
      have hfl7 := s67 _ _ hfl6
      repeat (walk_at "st")
      refine w_neIs (ps := [(x + y) % 65536, (x - y) % 65536, x * y % 65536]) (SqL.of htd7) (SqL.of h7') rfl ?_
      repeat (walk_at "st")
      refine w_or ?_
      repeat (walk_at "st")
      refine ⟨x, y, rfl, ⟨hx, hy⟩, ?_⟩
      repeat (walk_at "st")
      refine ⟨(x - y) % 65536, y, rfl, ⟨⟨by omega, by omega⟩, hy⟩, ?_⟩
      obtain ⟨hx0, hx1⟩ := id hx
      obtain ⟨hy0, hy1⟩ := id hy
      repeat (walk_at "st")
      refine ifT' (congrArg V.int (show ((x - y) % 65536 + y) % 65536 = x by omega)) ?_
      repeat (walk_at "st")
      refine ⟨0, x, rfl, ⟨⟨by decide, by decide⟩, hx⟩, ?_⟩
      repeat (walk_at "st")
      refine ⟨0, (0 - x) % 65536, rfl, ⟨⟨by decide, by decide⟩, ⟨by omega, by omega⟩⟩, ?_⟩
      repeat (walk_at "st")
      refine ifT' (congrArg V.int (show (0 - (0 - x) % 65536) % 65536 = x by omega)) ?_
      repeat (walk_at "st")
      refine w_cut (fun σ H' => ∃ v7, σ = [some (.int x), some (.int y), some (.ref nl), some (.ref fl), some (.ref tl), some (.ref td), some (.ref du), v7, none, none, none, none] ∧ Same H7 H') ?_ ?_
      · repeat (walk_at "st")
        refine ifS (fun h => ?_) (fun h => ?_)
        · repeat (walk_at "st")
          refine ⟨x, y, rfl, ⟨hx, hy, h⟩, ?_⟩
          have d1 := Int.emod_add_mul_ediv x y
          have d2 := Int.emod_nonneg x (show y ≠ 0 by omega)
          have d3 := Int.emod_lt_of_pos x h
          have d4 : x / y * y = y * (x / y) := Int.mul_comm _ _
          have d5 : (x / y + 1) * y = y * (x / y) + y := by rw [Int.add_mul, Int.mul_comm]; omega
          repeat (walk_at "st")
          dsimp only
          refine ifT (by omega) ?_
          repeat (walk_at "st")
          refine ifT' (by omega) ?_
          repeat (walk_at "st")
          exact ⟨_, rfl, Same.refl _⟩
        · repeat (walk_at "st")
          exact ⟨_, rfl, Same.refl _⟩
      · rintro σ H8 ⟨v7, rfl, s8⟩
        have hnl8 := s8 _ _ hnl7
        have hfl8 := s8 _ _ hfl7
        repeat (walk_at "st")
        refine ⟨x, y, rfl, ⟨hx, hy⟩, ?_⟩
        repeat (walk_at "st")
        refine ⟨x, y, rfl, ⟨hx, hy⟩, ?_⟩
        repeat (walk_at "st")
        refine ⟨x, y, rfl, ⟨hx, hy⟩, ?_⟩
        repeat (walk_at "st")
        intro t2 nt2
        have s9 := same_new (o := .lst [V.int (PySem.Builtin.bitAnd x y), .int (PySem.Builtin.bitOr x y), .int (PySem.Builtin.bitXor x y)]) nt2
        have hnl9 := s9 _ _ hnl8
        have hfl9 := s9 _ _ hfl8
        repeat (walk_at "st")
        refine w_comp (fun i => .int ((x / 2 ^ i % 2) * (y / 2 ^ i % 2))) (walk_zip (n := 16) (by simp [fb])) (by decide) (fun H' s => ⟨SqL.of (s _ _ hnl9), SqL.of (s _ _ hfl9)⟩) (fun i v H' H'' R S hi s hy' k => ?_) (fun c1 J1 sj1 nj1 hj1 => ?_)
        · obtain ⟨t, v1, v2, rfl, nt, rfl, e1, e2⟩ := hy'
          obtain ⟨m1, g1, rfl⟩ := map_getI e1
          obtain ⟨m2, g2, rfl⟩ := map_getI e2
          rw [bits_get 16 i _ hi] at g1 g2
          cases g1
          cases g2
          repeat (walk_at "st")
          exact k (same_new nt) _ (Same.refl _)
        have zj1 := zip_bits (fun p q => p * q) 16 x y
        have hnl10 := sj1 _ _ hnl9
        have hfl10 := sj1 _ _ hfl9
        repeat (walk_at "st")
        refine w_comp (fun i => .int (if (y / 2 ^ i % 2) > (x / 2 ^ i % 2) then (y / 2 ^ i % 2) else (x / 2 ^ i % 2))) (walk_zip (n := 16) (by simp [fb])) (by decide) (fun H' s => ⟨SqL.of (s _ _ hnl10), SqL.of (s _ _ hfl10)⟩) (fun i v H' H'' R S hi s hy' k => ?_) (fun c2 J2 sj2 nj2 hj2 => ?_)
        · obtain ⟨t, v1, v2, rfl, nt, rfl, e1, e2⟩ := hy'
          obtain ⟨m1, g1, rfl⟩ := map_getI e1
          obtain ⟨m2, g2, rfl⟩ := map_getI e2
          rw [bits_get 16 i _ hi] at g1 g2
          cases g1
          cases g2
          repeat (walk_at "st")
          exact k (same_new nt) _ (Same.refl _)
        have zj2 := zip_bits (fun p q => if q > p then q else p) 16 x y
        have hnl11 := sj2 _ _ hnl10
        have hfl11 := sj2 _ _ hfl10
        repeat (walk_at "st")
        refine w_comp (fun i => .int (if (x / 2 ^ i % 2) - (y / 2 ^ i % 2) < 0 then -((x / 2 ^ i % 2) - (y / 2 ^ i % 2)) else (x / 2 ^ i % 2) - (y / 2 ^ i % 2))) (walk_zip (n := 16) (by simp [fb])) (by decide) (fun H' s => ⟨SqL.of (s _ _ hnl11), SqL.of (s _ _ hfl11)⟩) (fun i v H' H'' R S hi s hy' k => ?_) (fun c3 J3 sj3 nj3 hj3 => ?_)
        · obtain ⟨t, v1, v2, rfl, nt, rfl, e1, e2⟩ := hy'
          obtain ⟨m1, g1, rfl⟩ := map_getI e1
          obtain ⟨m2, g2, rfl⟩ := map_getI e2
          rw [bits_get 16 i _ hi] at g1 g2
          cases g1
          cases g2
          repeat (walk_at "st")
          exact k (same_new nt) _ (Same.refl _)
        have zj3 := zip_bits (fun p q => if p - q < 0 then -(p - q) else p - q) 16 x y
        have hnl12 := sj3 _ _ hnl11
        have hfl12 := sj3 _ _ hfl11
        repeat (walk_at "st")
        intro d2 nd2
        have sd2 := same_new (o := .lst [V.ref c1, .ref c2, .ref c3]) nd2
        have c13 := sj3 _ _ (sj2 _ _ hj1)
        have c23 := sj3 _ _ hj2
        have ht2 := sj3 _ _ (sj2 _ _ (sj1 _ _ upd_same))
        obtain ⟨nx, rfl⟩ := Int.eq_ofNat_of_zero_le hx0
        obtain ⟨ny, rfl⟩ := Int.eq_ofNat_of_zero_le hy0
        have bx : nx < 2 ^ 16 := by omega
        have by' : ny < 2 ^ 16 := by omega
        have ea : PySem.Builtin.bitAnd (nx : Int) ny = ((nx &&& ny : Nat) : Int) := by rw [PyProof.Rows.bitAnd_pp (by omega) (by omega)]; rfl
        have eo : PySem.Builtin.bitOr (nx : Int) ny = ((nx ||| ny : Nat) : Int) := by rw [Bits.bitOr_pp (by omega) (by omega)]; rfl
        have ex : PySem.Builtin.bitXor (nx : Int) ny = ((nx ^^^ ny : Nat) : Int) := by rw [Bits.bitXor_pp (by omega) (by omega)]; rfl
        repeat (walk_at "st")
        refine lc_L (K := K) (l := d2) (xs := [V.ref c1, .ref c2, .ref c3]) (fun i => .int ([PySem.Builtin.bitAnd nx ny, PySem.Builtin.bitOr nx ny, PySem.Builtin.bitXor nx ny].getD i 0)) (fun R r => by walk_at "st"; exact r) (SqL.of upd_same) (by simp) (fun i v H' R S hi s k => ?_) (fun cl J4 sj4 nj4 hj4 => ?_)
        · have s' := sd2.trans s
          obtain ⟨rw', zs, e1, e2, e3⟩ : ∃ (rw' : Addr) (zs : List Int), v = .ref rw' ∧ J3 rw' = some (.lst (zs.map V.int)) ∧ ofL zs = [PySem.Builtin.bitAnd nx ny, PySem.Builtin.bitOr nx ny, PySem.Builtin.bitXor nx ny].getD i 0 := by
            match i, hi with
            | 0, hi => exact ⟨c1, List.zipWith (fun p q => p * q) (bitsL 16 nx) (bitsL 16 ny), (Option.some.inj hi).symm, c13.trans (by rw [zip_map zj1]), (of_and 16 nx ny bx by').trans ea.symm⟩
            | 1, hi => exact ⟨c2, List.zipWith (fun p q => if q > p then q else p) (bitsL 16 nx) (bitsL 16 ny), (Option.some.inj hi).symm, c23.trans (by rw [zip_map zj2]), (of_or 16 nx ny bx by').trans eo.symm⟩
            | 2, hi => exact ⟨c3, List.zipWith (fun p q => if p - q < 0 then -(p - q) else p - q) (bitsL 16 nx) (bitsL 16 ny), (Option.some.inj hi).symm, hj3.trans (by rw [zip_map zj3]), (of_xor 16 nx ny bx by').trans ex.symm⟩
          subst e1
          repeat (walk_at "st")
          refine ⟨rw', zs, rfl, SqL.of (s' _ _ e2), fun H'' s'' => ?_⟩
          rw [e3]
          exact k _ s''
        have hj4' : J4 cl = some (.lst ([PySem.Builtin.bitAnd nx ny, PySem.Builtin.bitOr nx ny, PySem.Builtin.bitXor nx ny].map V.int)) := hj4
        have ht4 := sj4 _ _ (sd2 _ _ ht2)
        repeat (walk_at "st")
        refine w_eqIs (ps := [PySem.Builtin.bitAnd nx ny, PySem.Builtin.bitOr nx ny, PySem.Builtin.bitXor nx ny]) (SqL.of ht4) (SqL.of hj4') rfl ?_
        have la : nx &&& ny ≤ nx := Nat.and_le_left
        have lo := Nat.or_lt_two_pow bx by'
        repeat (walk_at "st")
        refine ⟨nx, ny, rfl, ⟨hx, hy⟩, ?_⟩
        repeat (walk_at "st")
        refine ⟨nx, ny, rfl, ⟨hx, hy⟩, ?_⟩
        repeat (walk_at "st")
        refine ⟨_, _, rfl, ⟨⟨by dsimp only; rw [ea]; omega, by dsimp only; rw [ea]; omega⟩, ⟨by dsimp only; rw [eo]; omega, by dsimp only; rw [eo]; omega⟩⟩, ?_⟩
        repeat (walk_at "st")
        refine ⟨nx, ny, rfl, ⟨hx, hy⟩, ?_⟩
        have sum : PySem.Builtin.bitAnd (nx : Int) ny + PySem.Builtin.bitOr nx ny = nx + ny := by
          rw [PyProof.Rows.bitOr_and]
          omega
        repeat (walk_at "st")
        refine w_dec (congrArg (fun z => V.int (z % 65536)) sum) ?_
        exact q _ ((((((((((s1.trans s2).trans s3).trans ((same_new ntd).trans s4)).trans s5).trans s6).trans s67).trans s8).trans s9).trans (sj1.trans (sj2.trans sj3))).trans (sd2.trans sj4))
theorem ok__law_shifts_right (T : Txt K mg a) : FnOk P w K mg base (L2.CX P w) 6 a.f__law_shifts_right a.d__law_shifts_right ["_law_word_here", "_law_many"] (spT2 fun x m => W16 x ∧ W16 m) := by
  refine T.F__law_shifts_right.okX sc__law_shifts_right (fun vs H Q E h => ?_) (fun cdv A outer s H vs Q E hr h => ?_)
  · obtain ⟨_, _, rfl, _⟩ := h
    rfl
  · obtain ⟨x, m, rfl, ⟨hx, hm⟩, q⟩ := h
    refine ⟨_, (pss_cons (ps_set (i := 2) sc__law_shifts_right.nd rfl (Or.inl rfl) (pe_call (ok__law_list T) (hr.mono (by decide)) (by rfl) T.m__law_list T.F__law_list.kp T.b__law_list .nil passL (pa_cons (pv 0) pa_nil)))
      (pss_cons (ps_set (i := 3) sc__law_shifts_right.nd rfl (Or.inl rfl) (pe_callB (call_min2 rfl) (by rfl) T.z_min (by decide +kernel) (pa_cons (pv 1) (pa_cons pe_int pa_nil))))
      (pss_cons (ps_par (i := 4) (j := 5) rfl sc__law_shifts_right.nd rfl rfl (by decide) rfl rfl (pa_cons (pe_slice sl_list (pe_op op_cat (pe_op op_rep (pe_lst (pa_cons pe_int pa_nil)) (pv 3)) (pv 2)) po_none (po_some pe_int)) (pa_cons (pe_op op_cat (pe_slice sl_list (pv 2) (po_some (pv 3)) po_none) (pe_op op_rep (pe_lst (pa_cons pe_int pa_nil)) (pv 3))) pa_nil)) (by rfl))
      (pss_cons (ps_if (pt_cmpR (op_neD hr.units) (pe_lst (pa_cons (pe_call (ok_shifted_up T) (hr.mono (by decide)) (by rfl) T.m_shifted_up T.F_shifted_up.kp T.b_shifted_up .nil passL (pa_cons (pv 0) (pa_cons (pv 1) pa_nil))) (pa_cons (pe_callN0 (ok_shifted_down T) (hr.mono (by decide)) (by rfl) T.m_shifted_down T.F_shifted_down.kp T.kb_shifted_down_0_one_many passL (pk_cons (pv 0) (pk_cons (pv 1) pk_nil))) pa_nil))) (pe_lst (pa_cons (pe_call (ok__law_of T) (hr.mono (by decide)) (by rfl) T.m__law_of T.F__law_of.kp T.b__law_of .nil passL (pa_cons (pv 4) pa_nil)) (pa_cons (pe_call (ok__law_of T) (hr.mono (by decide)) (by rfl) T.m__law_of T.F__law_of.kp T.b__law_of .nil passL (pa_cons (pv 5) pa_nil)) pa_nil))) (nomark _)) (pss_one (ps_ret pe_bl)) pss_nil)
      (pss_one (ps_ret (pe_cmpR op_eq (pe_call (ok_signed T) (hr.mono (by decide)) (by rfl) T.m_signed T.F_signed.kp T.b_signed .nil passL (pa_cons (pv 0) pa_nil)) (pe_op op_sub (pe_call (ok__law_of T) (hr.mono (by decide)) (by rfl) T.m__law_of T.F__law_of.kp T.b__law_of .nil passL (pa_cons (pe_slice sl_list (pv 2) po_none (po_some pe_int)) pa_nil)) (pe_op op_mul pe_int (pe_ix ix_list (pv 2) pe_int (fun _ _ => rfl)))) (nomark _)))))))), ?_⟩
    refine w_in (σ := [some (.int x), some (.int m), none, none, none, none]) rfl ?_
    obtain ⟨hx0, hx1⟩ := id hx
    obtain ⟨hm0, hm1⟩ := id hm
    have fb := fun z : Int => bitsL_len 16 z
    repeat (walk_at "st")
    refine ⟨x, rfl, fun nl H1 s1 n1 h1 => ?_⟩
    repeat (walk_at "st")
    intro z nz
    have k1 := (same_new (o := .lst [V.int 0]) nz) _ _ h1
    obtain ⟨k, hk, hk16, hkm⟩ : ∃ k : Nat, (if (16 : Int) < m then (16 : Int) else m) = k ∧ k ≤ 16 ∧ ((m < 16 ∧ m = k) ∨ (16 ≤ m ∧ k = 16)) := by
      by_cases h : (16 : Int) < m
      · exact ⟨16, by rw [if_pos h]; rfl, by decide, .inr ⟨by omega, rfl⟩⟩
      · exact ⟨m.toNat, by rw [if_neg h]; omega, by omega, by omega⟩
    simp only [hk]
    repeat (walk_at "st")
    rw [flat_rep]
    intro z2 nz2
    have k2 := (same_new (o := .lst (List.replicate k (V.int 0))) nz2) _ _ k1
    have rz : (List.replicate k (V.int 0)).length ≤ 16 := by simp; omega
    have bz : ((bitsL 16 x).map V.int).length = 16 := by simp [fb]
    repeat (walk_at "st")
    intro z3 nz3
    have k3 := (same_new (o := .lst (List.replicate k (V.int 0) ++ (bitsL 16 x).map V.int)) nz3) _ _ k2
    repeat (walk_at "st")
    intro up nup
    have ecut : cutV (List.replicate k (V.int 0) ++ (bitsL 16 x).map V.int) none (some 16) = ((List.replicate k 0 ++ bitsL 16 x).take 16).map V.int := by
      rw [cut_to (by decide), List.map_take, List.map_append, List.map_replicate]
      rfl
    rw [ecut]
    have k4 := (same_new (o := .lst (((List.replicate k 0 ++ bitsL 16 x).take 16).map V.int)) nup) _ _ k3
    repeat (walk_at "st")
    intro z5 nz5
    rw [cut_from (by omega), Int.toNat_natCast, ← List.map_drop]
    have s5 := same_new (o := .lst (((bitsL 16 x).drop k).map V.int)) nz5
    have k5 := s5 _ _ k4
    have u5 := s5 _ _ upd_same
    have dz : (((bitsL 16 x).drop k).map V.int).length ≤ 16 := by simp [fb]
    repeat (walk_at "st")
    intro z6 nz6
    have s6 := same_new (o := .lst [V.int 0]) nz6
    have k6 := s6 _ _ k5
    have u6 := s6 _ _ u5
    have v6 := s6 _ _ upd_same
    repeat (walk_at "st")
    rw [flat_rep]
    intro z7 nz7
    have s7 := same_new (o := .lst (List.replicate k (V.int 0))) nz7
    have k7 := s7 _ _ k6
    have u7 := s7 _ _ u6
    have v7 := s7 _ _ v6
    repeat (walk_at "st")
    intro dn ndn
    rw [show List.map V.int ((bitsL 16 x).drop k) ++ List.replicate k (V.int 0) = ((bitsL 16 x).drop k ++ List.replicate k 0).map V.int by rw [List.map_append, List.map_replicate]]
    have s8 := same_new (o := .lst (((bitsL 16 x).drop k ++ List.replicate k 0).map V.int)) ndn
    have k8 := s8 _ _ k7
    have u8 := s8 _ _ u7
    repeat (walk_at "st")
    refine ⟨x, m, rfl, ⟨hx, hm⟩, ?_⟩
    repeat (walk_at "st")
    refine ⟨x, m, rfl, ⟨hx, hm⟩, ?_⟩
    repeat (walk_at "st")
    intro t1 nt1
    have st1 := same_new (o := .lst [V.int (if m < 16 then x * 2 ^ m.toNat % 65536 else 0), V.int (if m < 16 then x / 2 ^ m.toNat else 0)]) nt1
    have k9 := st1 _ _ k8
    have u9 := st1 _ _ u8
    have d9 := st1 _ _ upd_same
    repeat (walk_at "st")
    refine ⟨up, _, rfl, SqL.of u9, fun H2 s2 => ?_⟩
    have k10 := s2 _ _ k9
    have d10 := s2 _ _ d9
    have t10 := s2 _ _ upd_same
    repeat (walk_at "st")
    refine ⟨dn, _, rfl, SqL.of d10, fun H3 s3 => ?_⟩
    have k11 := s3 _ _ k10
    have t11 := s3 _ _ t10
    repeat (walk_at "st")
    intro t2 nt2
    have st2 := same_new (o := .lst [V.int (ofL ((List.replicate k 0 ++ bitsL 16 x).take 16)), V.int (ofL ((bitsL 16 x).drop k ++ List.replicate k 0))]) nt2
    have k12 := st2 _ _ k11
    have t12 := st2 _ _ t11
    have e1 : (if m < 16 then x * 2 ^ m.toNat % 65536 else 0) = ofL ((List.replicate k 0 ++ bitsL 16 x).take 16) := by
      rw [shl_list x k hk16]
      rcases hkm with ⟨h1, rfl⟩ | ⟨h1, rfl⟩
      · rw [if_pos h1, Int.toNat_natCast]
      · rw [if_neg (by omega)]
        omega
    have e2 : (if m < 16 then x / 2 ^ m.toNat else 0) = ofL ((bitsL 16 x).drop k ++ List.replicate k 0) := by
      rw [of_app, of_rep, bits_drop, of_bits, Int.mul_zero, Int.add_zero]
      have hlt : x / 2 ^ k < 2 ^ (16 - k) := by
        refine Int.ediv_lt_of_lt_mul (pow_pos2 k) ?_
        rw [← Int.pow_add, show 16 - k + k = 16 by omega]
        exact hx1
      rw [Int.emod_eq_of_lt (Int.ediv_nonneg hx0 (Int.le_of_lt (pow_pos2 k))) hlt]
      rcases hkm with ⟨h1, rfl⟩ | ⟨h1, rfl⟩
      · rw [if_pos h1, Int.toNat_natCast]
      · rw [if_neg (by omega)]
        omega
    refine w_neIs (ps := [if m < 16 then x * 2 ^ m.toNat % 65536 else 0, if m < 16 then x / 2 ^ m.toNat else 0]) (qs := [ofL ((List.replicate k 0 ++ bitsL 16 x).take 16), ofL ((bitsL 16 x).drop k ++ List.replicate k 0)]) (SqL.of t12) (SqL.of upd_same) (by rw [e1, e2]) ?_
    repeat (walk_at "st")
    refine ⟨x, rfl, hx, ?_⟩
    repeat (walk_at "st")
    intro z9 nz9
    rw [cut_to (by decide), ← List.map_take]
    have s9 := same_new (o := .lst (((bitsL 16 x).take (15 : Int).toNat).map V.int)) nz9
    have k13 := s9 _ _ k12
    repeat (walk_at "st")
    refine ⟨z9, _, rfl, SqL.of upd_same, fun H4 s4 => ?_⟩
    have k14 := s4 _ _ k13
    have e15 : atI ((bitsL 16 x).map V.int) 15 = some (.int (x / 2 ^ 15 % 2)) := atI_nat (j := 15) (by rw [List.getElem?_map, bits_get 16 15 x (by decide)]; rfl)
    repeat (walk_at "st")
    have e16 : ofL ((bitsL 16 x).take (15 : Int).toNat) = x % 32768 := by
      rw [bits_take, of_bits]
      rfl
    refine w_dec (congrArg V.int ?_) ?_
    · dsimp only
      rw [e16]
      split <;> omega
    · refine q _ (fun b o e => ?_)
      exact s4 _ _ (s9 _ _ (st2 _ _ (s3 _ _ (s2 _ _ (st1 _ _ (s8 _ _ (s7 _ _ (s6 _ _ (s5 _ _ ((same_new nup) _ _ ((same_new nz3) _ _ ((same_new nz2) _ _ ((same_new nz) _ _ (s1 _ _ e))))))))))))))
theorem ok__law_bits_right (T : Txt K mg a) : FnOk P w K mg base (L2.CX P w) 7 a.f__law_bits_right a.d__law_bits_right ["_law_word_here", "_law_low", "_law_many", "_law_value"] (spT4 fun w lo m v => W16 w ∧ 0 ≤ lo ∧ lo < 16 ∧ 1 ≤ m ∧ lo + m ≤ 16 ∧ 0 ≤ v ∧ v < 2 ^ m.toNat) := by
  refine T.F__law_bits_right.okX sc__law_bits_right (fun vs H Q E h => ?_) (fun cdv A outer s H vs Q E hr h => ?_)
  · obtain ⟨_, _, _, _, rfl, _⟩ := h
    rfl
  · obtain ⟨x, lo, m, v, rfl, ⟨hx, h0, h1, h2, h3, h4, h5⟩, q⟩ := h
    refine ⟨_, (pss_cons (ps_par (i := 4) (j := 5) rfl sc__law_bits_right.nd rfl rfl (by decide) rfl rfl (pa_cons (pe_call (ok__law_list T) (hr.mono (by decide)) (by rfl) T.m__law_list T.F__law_list.kp T.b__law_list .nil passL (pa_cons (pv 0) pa_nil)) (pa_cons (pe_slice sl_list (pe_call (ok__law_list T) (hr.mono (by decide)) (by rfl) T.m__law_list T.F__law_list.kp T.b__law_list .nil passL (pa_cons (pv 3) pa_nil)) po_none (po_some (pv 2))) pa_nil)) (by rfl))
      (pss_cons (ps_if (pt_cmpR op_ne (pe_call (ok_bits T) (hr.mono (by decide)) (by rfl) T.m_bits T.F_bits.kp T.b_bits .nil passL (pa_cons (pv 0) (pa_cons (pv 1) (pa_cons (pv 2) pa_nil)))) (pe_call (ok__law_of T) (hr.mono (by decide)) (by rfl) T.m__law_of T.F__law_of.kp T.b__law_of .nil passL (pa_cons (pe_slice sl_list (pv 4) (po_some (pv 1)) (po_some (pe_op op_add (pv 1) (pv 2)))) pa_nil)) (nomark _)) (pss_one (ps_ret pe_bl)) pss_nil)
      (pss_cons (ps_set (i := 6) sc__law_bits_right.nd rfl (Or.inl rfl) (pe_call (ok_with_bits T) (hr.mono (by decide)) (by rfl) T.m_with_bits T.F_with_bits.kp T.b_with_bits .nil passL (pa_cons (pv 0) (pa_cons (pv 1) (pa_cons (pv 2) (pa_cons (pv 3) pa_nil))))))
      (pss_cons (ps_if (PW.pt (pw_or (pt_cmpR op_ne (pv 6) (pe_call (ok__law_of T) (hr.mono (by decide)) (by rfl) T.m__law_of T.F__law_of.kp T.b__law_of .nil passL (pa_cons (pe_op op_cat (pe_op op_cat (pe_slice sl_list (pv 4) po_none (po_some (pv 1))) (pv 5)) (pe_slice sl_list (pv 4) (po_some (pe_op op_add (pv 1) (pv 2))) po_none)) pa_nil)) (nomark _)) (pw_or1 (pt_cmpR op_ne (pe_call (ok_bits T) (hr.mono (by decide)) (by rfl) T.m_bits T.F_bits.kp T.b_bits .nil passL (pa_cons (pv 6) (pa_cons (pv 1) (pa_cons (pv 2) pa_nil)))) (pv 3) (nomark _))))) (pss_one (ps_ret pe_bl)) pss_nil)
      (pss_one (ps_ret (pe_cmpR op_eq (pe_call (ok_with_bits T) (hr.mono (by decide)) (by rfl) T.m_with_bits T.F_with_bits.kp T.b_with_bits .nil passL (pa_cons (pv 6) (pa_cons (pv 1) (pa_cons (pv 2) (pa_cons (pe_call (ok_bits T) (hr.mono (by decide)) (by rfl) T.m_bits T.F_bits.kp T.b_bits .nil passL (pa_cons (pv 0) (pa_cons (pv 1) (pa_cons (pv 2) pa_nil)))) pa_nil))))) (pv 0) (nomark _)))))))), ?_⟩
    refine w_in (σ := [some (.int x), some (.int lo), some (.int m), some (.int v), none, none, none]) rfl ?_
    obtain ⟨hx0, hx1⟩ := id hx
    obtain ⟨a, rfl⟩ := Int.eq_ofNat_of_zero_le h0
    obtain ⟨b, rfl⟩ := Int.eq_ofNat_of_zero_le (show 0 ≤ m by omega)
    rw [Int.toNat_natCast] at h5
    have hab : a + b ≤ 16 := by omega
    have fb := fun z : Int => bitsL_len 16 z
    repeat (walk_at "st")
    refine ⟨x, rfl, fun nl H1 s1 n1 k1 => ?_⟩
    repeat (walk_at "st")
    refine ⟨v, rfl, fun vl H2 s2 n2 hv2 => ?_⟩
    have k2 := s2 _ _ k1
    repeat (walk_at "st")
    intro vw nvw
    rw [cut_to (by omega), ← List.map_take]
    have s3 := same_new (o := .lst (((bitsL 16 v).take ((b : Nat) : Int).toNat).map V.int)) nvw
    have k3 := s3 _ _ k2
    repeat (walk_at "st")
    refine ⟨x, a, b, rfl, ⟨hx, h0, h1, h2, h3⟩, ?_⟩
    repeat (walk_at "st")
    intro z4 nz4
    rw [cut_mid (by omega) (by omega), ← List.map_drop, ← List.map_take]
    repeat (walk_at "st")
    refine ⟨z4, _, rfl, SqL.of upd_same, fun H4 s4 => ?_⟩
    have s34 := (same_new (o := .lst ((((bitsL 16 x).drop ((a : Nat) : Int).toNat).take (((a : Int) + b).toNat - ((a : Nat) : Int).toNat)).map V.int)) nz4).trans s4
    have k4 := s34 _ _ k3
    have v4 := s34 _ _ upd_same
    have e1 : ofL (((bitsL 16 x).drop ((a : Nat) : Int).toNat).take (((a : Int) + b).toNat - ((a : Nat) : Int).toNat)) = x / 2 ^ a % 2 ^ b := by
      rw [Int.toNat_natCast, show ((a : Int) + b).toNat - a = b by omega, bits_drop, bits_take, of_bits, show min b (16 - a) = b by omega]
    repeat (walk_at "st")
    refine ifT' (congrArg V.int (by rw [e1]; simp only [Int.toNat_natCast])) ?_
    repeat (walk_at "st")
    refine ⟨x, a, b, v, rfl, ⟨hx, h0, h1, h2, h3, h4, by rw [Int.toNat_natCast]; exact h5⟩, ?_⟩
    dsimp only
    simp only [Int.toNat_natCast]
    generalize hTD : x % 2 ^ a + 2 ^ a * v + 2 ^ (a + b) * (x / 2 ^ (a + b)) = td
    have hA := pow_pos2 a
    rw [Int.pow_add] at hTD
    have hL : ofL ((bitsL 16 x).take a ++ (bitsL 16 v).take b ++ (bitsL 16 x).drop (a + b)) = td := by
      have hv16 : v < 2 ^ 16 := Int.lt_of_lt_of_le h5 (pow_le2 (by omega))
      have hlt : x / 2 ^ (a + b) < 2 ^ (16 - (a + b)) := by
        refine Int.ediv_lt_of_lt_mul (pow_pos2 _) ?_
        rw [← Int.pow_add, show 16 - (a + b) + (a + b) = 16 by omega]
        exact hx1
      rw [of_app, of_app, bits_take, bits_take, bits_drop, of_bits, of_bits, of_bits, List.length_append, bitsL_len, bitsL_len, show min a 16 = a by omega, show min b 16 = b by omega,
        Int.emod_eq_of_lt h4 h5, Int.emod_eq_of_lt (Int.ediv_nonneg hx0 (Int.le_of_lt (pow_pos2 _))) hlt, Int.pow_add, ← hTD]
    have hW : W16 td := by
      obtain ⟨b1, b2⟩ := of_bound ((bitsL 16 x).take a ++ (bitsL 16 v).take b ++ (bitsL 16 x).drop (a + b)) (fun c hc => by
        rcases List.mem_append.mp hc with hc | hc
        · rcases List.mem_append.mp hc with hc | hc
          · exact bits_mem 16 x c (List.mem_of_mem_take hc)
          · exact bits_mem 16 v c (List.mem_of_mem_take hc)
        · exact bits_mem 16 x c (List.mem_of_mem_drop hc))
      rw [hL] at b1 b2
      refine ⟨b1, Int.lt_of_lt_of_le b2 (pow_le2 (n := 16) ?_)⟩
      simp only [List.length_append, List.length_take, List.length_drop, fb]
      omega
    repeat (walk_at "st")
    refine w_or ?_
    repeat (walk_at "st")
    intro z5 nz5
    rw [cut_to (by omega), ← List.map_take]
    have s5 := same_new (o := .lst (((bitsL 16 x).take ((a : Nat) : Int).toNat).map V.int)) nz5
    have k5 := s5 _ _ k4
    have v5 := s5 _ _ v4
    have lz5 : (((bitsL 16 x).take ((a : Nat) : Int).toNat).map V.int).length ≤ 16 := by simp [fb]; omega
    have lz6 : (((bitsL 16 v).take ((b : Nat) : Int).toNat).map V.int).length ≤ 16 := by simp [fb]; omega
    repeat (walk_at "st")
    intro z6 nz6
    rw [← List.map_append]
    have s6 := same_new (o := .lst (((bitsL 16 x).take ((a : Nat) : Int).toNat ++ (bitsL 16 v).take ((b : Nat) : Int).toNat).map V.int)) nz6
    have k6 := s6 _ _ k5
    have v6 := s6 _ _ v5
    repeat (walk_at "st")
    intro z7 nz7
    rw [cut_from (by omega), ← List.map_drop]
    have s7 := same_new (o := .lst (((bitsL 16 x).drop ((a : Int) + b).toNat).map V.int)) nz7
    have u7 := s7 _ _ upd_same
    have lz7 : (((bitsL 16 x).take ((a : Nat) : Int).toNat ++ (bitsL 16 v).take ((b : Nat) : Int).toNat).map V.int).length ≤ 32 := by simp [fb]; omega
    have lz8 : (((bitsL 16 x).drop ((a : Int) + b).toNat).map V.int).length ≤ 16 := by simp [fb]
    repeat (walk_at "st")
    intro z8 nz8
    rw [← List.map_append]
    have s8 := same_new (o := .lst (((bitsL 16 x).take ((a : Nat) : Int).toNat ++ (bitsL 16 v).take ((b : Nat) : Int).toNat ++ (bitsL 16 x).drop ((a : Int) + b).toNat).map V.int)) nz8
    repeat (walk_at "st")
    refine ⟨z8, _, rfl, SqL.of upd_same, fun H9 s9 => ?_⟩
    have eL : ofL ((bitsL 16 x).take ((a : Nat) : Int).toNat ++ (bitsL 16 v).take ((b : Nat) : Int).toNat ++ (bitsL 16 x).drop ((a : Int) + b).toNat) = td := by
      rw [Int.toNat_natCast, Int.toNat_natCast, show ((a : Int) + b).toNat = a + b by omega]
      exact hL
    repeat (walk_at "st")
    refine ifT' (congrArg V.int eL.symm) ?_
    repeat (walk_at "st")
    refine ⟨td, a, b, rfl, ⟨hW, h0, h1, h2, h3⟩, ?_⟩
    dsimp only
    simp only [Int.toNat_natCast]
    repeat (walk_at "st")
    refine ifT' (congrArg V.int (by rw [← hTD, put_get hA h4 h5])) ?_
    repeat (walk_at "st")
    refine ⟨x, a, b, rfl, ⟨hx, h0, h1, h2, h3⟩, ?_⟩
    dsimp only
    simp only [Int.toNat_natCast]
    repeat (walk_at "st")
    refine ⟨td, a, b, _, rfl, ⟨hW, h0, h1, h2, h3, Int.emod_nonneg _ (Int.ne_of_gt (pow_pos2 b)), by rw [Int.toNat_natCast]; exact Int.emod_lt_of_pos _ (pow_pos2 b)⟩, ?_⟩
    dsimp only
    simp only [Int.toNat_natCast]
    repeat (walk_at "st")
    refine w_dec (congrArg V.int ?_) ?_
    · rw [Int.pow_add, ← hTD, put_mod, put_high hA h4 h5, put_self hA]
    · exact q _ (fun b o e => s9 _ _ (s8 _ _ (s7 _ _ (s6 _ _ (s5 _ _ (s34 _ _ (s3 _ _ (s2 _ _ (s1 _ _ e)))))))))
theorem ok_law (T : Txt K mg a) : FnOk P w K mg base (L2.CX P w) 8 a.f_law a.d_law ["_law_script"] (sp_law K) := by
  refine T.F_law.okX sc_law (fun vs H Q E h => ?_) (fun cdv A outer s H vs Q E hr h => ?_)
  · obtain ⟨_, _, rfl, _⟩ := h
    rfl
  · obtain ⟨sa, ss, rfl, hS, hss, q⟩ := h
    refine ⟨_, (pss_cons (ps_set (i := 1) sc_law.nd rfl (Or.inl rfl) (pe_call (ok__law_pot T) (hr.mono (by decide)) (by rfl) T.m__law_pot T.F__law_pot.kp T.b__law_pot .nil passL (pa_cons (pv 0) (pa_cons pe_int pa_nil))))
      (pss_cons (ps_for (passes_of rfl) rfl (pi_range1 (by rfl) T.z_range (pa_cons pe_int pa_nil)) (pg_name (i := 2) sc_law.nd rfl (Or.inl rfl))
      (pss_cons (ps_par (i := 3) (j := 4) rfl sc_law.nd rfl rfl (by decide) rfl rfl (pa_cons (pe_call (ok__law_word T) (hr.mono (by decide)) (by rfl) T.m__law_word T.F__law_word.kp T.b__law_word .nil passL (pa_cons (pv 1) pa_nil)) (pa_cons (pe_call (ok__law_word T) (hr.mono (by decide)) (by rfl) T.m__law_word T.F__law_word.kp T.b__law_word .nil passL (pa_cons (pv 1) pa_nil)) pa_nil)) (by rfl))
      (pss_cons (ps_if (pt_not (pt_val (pe_call (ok__law_sums_right T) (hr.mono (by decide)) (by rfl) T.m__law_sums_right T.F__law_sums_right.kp T.b__law_sums_right .nil passL (pa_cons (pv 3) (pa_cons (pv 4) pa_nil))))) (pss_one (ps_ret pe_bl)) pss_nil)
      (pss_cons (ps_set (i := 5) sc_law.nd rfl (Or.inl rfl) (pe_call (ok__law_pick T) (hr.mono (by decide)) (by rfl) T.m__law_pick T.F__law_pick.kp T.b__law_pick .nil passL (pa_cons (pv 1) (pa_cons (pe_lst (pa_cons (pe_call (ok__law_draw T) (hr.mono (by decide)) (by rfl) T.m__law_draw T.F__law_draw.kp T.b__law_draw .nil passL (pa_cons (pv 1) (pa_cons pe_int pa_nil))) (pa_cons pe_int (pa_cons pe_int (pa_cons pe_int (pa_cons pe_int (pa_cons pe_int (pa_cons pe_int pa_nil)))))))) pa_nil))))
      (pss_cons (ps_if (pt_not (pt_val (pe_call (ok__law_shifts_right T) (hr.mono (by decide)) (by rfl) T.m__law_shifts_right T.F__law_shifts_right.kp T.b__law_shifts_right .nil passL (pa_cons (pv 3) (pa_cons (pv 5) pa_nil))))) (pss_one (ps_ret pe_bl)) pss_nil)
      (pss_cons (ps_set (i := 6) sc_law.nd rfl (Or.inl rfl) (pe_call (ok__law_draw T) (hr.mono (by decide)) (by rfl) T.m__law_draw T.F__law_draw.kp T.b__law_draw .nil passL (pa_cons (pv 1) (pa_cons pe_int pa_nil))))
      (pss_cons (ps_set (i := 7) sc_law.nd rfl (Or.inl rfl) (pe_op op_add pe_int (pe_call (ok__law_draw T) (hr.mono (by decide)) (by rfl) T.m__law_draw T.F__law_draw.kp T.b__law_draw .nil passL (pa_cons (pv 1) (pa_cons (pe_op op_sub pe_int (pv 6)) pa_nil)))))
      (pss_one (ps_if (pt_not (pt_val (pe_call (ok__law_bits_right T) (hr.mono (by decide)) (by rfl) T.m__law_bits_right T.F__law_bits_right.kp T.b__law_bits_right .nil passL (pa_cons (pv 3) (pa_cons (pv 6) (pa_cons (pv 7) (pa_cons (pe_op op_mod (pv 4) (pe_op op_shl pe_int (pv 7))) pa_nil))))))) (pss_one (ps_ret pe_bl)) pss_nil)))))))))
      (pss_one (ps_ret pe_bl)))), ?_⟩
    refine w_in (σ := [some (.ref sa), none, none, none, none, none, none, none]) rfl ?_
    repeat (walk_at "st")
    refine ⟨sa, ss, 0, rfl, hS, by decide, by decide, fun p H1 s1 np hp => ?_⟩
    repeat (walk_at "st")
    refine w_range1 (fun i σ H' => ∃ v2 v3 v4 v5 v6 v7, σ = [some (.ref sa), some (.ref p), v2, v3, v4, v5, v6, v7] ∧ Pot H' p) (by decide)
      ⟨_, _, _, _, _, _, rfl, hp⟩ (fun i σ H' hi ⟨v2, v3, v4, v5, v6, v7, e, hp⟩ => ?_) (fun σ H' ⟨v2, v3, v4, v5, v6, v7, e, hp⟩ => ?_)
    · subst e
      repeat (walk_at "st")
      refine ⟨p, rfl, hp, fun x H2 c2 hp2 hx => ?_⟩
      repeat (walk_at "st")
      refine ⟨p, rfl, hp2, fun y H3 c3 hp3 hy => ?_⟩
      repeat (walk_at "st")
      refine ⟨x, y, rfl, ⟨hx, hy⟩, fun H4 s4 => ?_⟩
      have hp4 := hp3.same s4
      repeat (walk_at "st")
      refine ⟨p, 16, rfl, hp4, by decide, by decide, fun d H5 c5 hp5 d0 d1 => ?_⟩
      repeat (walk_at "st")
      intro l nl
      have hpl := hp5.ne nl
      repeat (walk_at "st")
      refine ⟨p, l, _, rfl, hp5.new nl, SqL.of upd_same, hpl.symm, fun H6 c6 => SqL.of (c6 _ _ upd_same hpl.symm), Nat.le_of_ble_eq_true rfl, Nat.le_of_ble_eq_true rfl, fun v H6 c6 hp6 hv => ?_⟩
      obtain ⟨m, rfl, hm⟩ : ∃ m : Int, v = .int m ∧ W16 m := by
        simp only [List.mem_cons, List.not_mem_nil, or_false] at hv
        rcases hv with h | h | h | h | h | h | h <;> exact ⟨_, h, by constructor <;> omega⟩
      repeat (walk_at "st")
      refine ⟨x, m, rfl, ⟨hx, hm⟩, fun H7 s7 => ?_⟩
      have hp7 := hp6.same s7
      repeat (walk_at "st")
      refine ⟨p, 16, rfl, hp7, by decide, by decide, fun lo H8 c8 hp8 lo0 lo1 => ?_⟩
      repeat (walk_at "st")
      refine ⟨p, 16 - lo, rfl, hp8, by omega, by omega, fun e H9 c9 hp9 e0 e1 => ?_⟩
      have hpos : (0 : Int) < 1 * 2 ^ (1 + e).toNat := by
        rw [Int.one_mul]
        exact pow_pos2 _
      repeat (walk_at "st")
      refine ⟨x, lo, 1 + e, _, rfl, ⟨hx, lo0, lo1, by omega, by omega, Int.emod_nonneg _ (Int.ne_of_gt hpos), ?_⟩, fun H10 s10 => ?_⟩
      · have h := Int.emod_lt_of_pos y hpos
        rwa [Int.one_mul] at h ⊢
      repeat (walk_at "st")
      exact ⟨_, _, _, _, _, _, rfl, hp9.same s10⟩
    · subst e
      repeat (walk_at "st")
      exact q _
end
theorem all_mk {l : PySem.W.OpenLaw} {w : World} {K : PySem.W.Frag} {h : Heap} {mg : Str → Option Value} {fa : Addr} (X : K.In h) (G : h.Ns mainGlobals mg) (hfa : mg "law" = some (.ref fa))
    {f_CoreError___init__ : Addr} {d_CoreError___init__ : FuncData} {f_DividedByNought___init__ : Addr} {d_DividedByNought___init__ : FuncData} {f_is_integer : Addr} {d_is_integer : FuncData} {f_is_count : Addr} {d_is_count : FuncData} {f_want_many : Addr} {d_want_many : FuncData} {f_is_word : Addr} {d_is_word : FuncData} {f_want_word : Addr} {d_want_word : FuncData} {f_part_of : Addr} {d_part_of : FuncData} {f_put_part : Addr} {d_put_part : FuncData} {f_two_words : Addr} {d_two_words : FuncData} {f_plus : Addr} {d_plus : FuncData} {f_minus : Addr} {d_minus : FuncData} {f_times : Addr} {d_times : FuncData} {f_over : Addr} {d_over : FuncData} {f_both : Addr} {d_both : FuncData} {f_either : Addr} {d_either : FuncData} {f_unlike : Addr} {d_unlike : FuncData} {f_shifted_up : Addr} {d_shifted_up : FuncData} {f_shifted_down : Addr} {d_shifted_down : FuncData} {f_signed : Addr} {d_signed : FuncData} {f_bits : Addr} {d_bits : FuncData} {f_with_bits : Addr} {d_with_bits : FuncData} {f__law_pot : Addr} {d__law_pot : FuncData} {f__law_draw : Addr} {d__law_draw : FuncData} {f__law_pick : Addr} {d__law_pick : FuncData} {f__law_word : Addr} {d__law_word : FuncData} {f__law_list : Addr} {d__law_list : FuncData} {f__law_of : Addr} {d__law_of : FuncData} {f__law_added : Addr} {d__law_added : FuncData} {f__law_times : Addr} {d__law_times : FuncData} {f__law_sums_right : Addr} {d__law_sums_right : FuncData} {f__law_shifts_right : Addr} {d__law_shifts_right : FuncData} {f__law_bits_right : Addr} {d__law_bits_right : FuncData} {f_law : Addr} {d_law : FuncData} {c_CoreError : Addr} {c_InvalidWord : Addr} {c_InvalidMany : Addr} {c_DividedByNought : Addr} {c_InvalidLow : Addr} {t_MOST_WORD : Tok} {t_BITS : Tok}
    (a_CoreError : PySem.W.nsIn K mainGlobals "CoreError" = some (some (.ref c_CoreError)))
    (xc_CoreError : ∃ nm q N bs sn sub ab col dd k0 k1 k2 k3 k5, K.lookup c_CoreError = some (excClassObj nm q c_CoreError N bs [.type "ValueError", .type "Exception", .type "BaseException", .type "object"] true sn sub ab col dd k0 k1 k2 k3 k5 "ValueError.__new__"))
    (xs_CoreError : PySem.W.findIn K (.ref c_CoreError) "__setattr__" = some (some (.builtin "object.__setattr__")))
    (xb_CoreError : PySem.W.subIn K (.ref c_CoreError) (.type "BaseException") = some true)
    (xy_CoreError : PySem.W.typeIn K (.ref c_CoreError) = some (.type "type"))
    (xk_CoreError : PySem.W.keepIn K (.ref c_CoreError) = true)
    (xi_CoreError : PySem.W.findIn K (.ref c_CoreError) "__init__" = some (some (.ref f_CoreError___init__)))
    (xn_CoreError_value : PySem.W.findIn K (.ref c_CoreError) "value" = some none)
    (a_InvalidWord : PySem.W.nsIn K mainGlobals "InvalidWord" = some (some (.ref c_InvalidWord)))
    (xc_InvalidWord : ∃ nm q N bs sn sub ab col dd k0 k1 k2 k3 k5, K.lookup c_InvalidWord = some (excClassObj nm q c_InvalidWord N bs [.ref c_CoreError, .type "ValueError", .type "Exception", .type "BaseException", .type "object"] true sn sub ab col dd k0 k1 k2 k3 k5 "ValueError.__new__"))
    (xs_InvalidWord : PySem.W.findIn K (.ref c_InvalidWord) "__setattr__" = some (some (.builtin "object.__setattr__")))
    (xb_InvalidWord : PySem.W.subIn K (.ref c_InvalidWord) (.type "BaseException") = some true)
    (xy_InvalidWord : PySem.W.typeIn K (.ref c_InvalidWord) = some (.type "type"))
    (xk_InvalidWord : PySem.W.keepIn K (.ref c_InvalidWord) = true)
    (xi_InvalidWord : PySem.W.findIn K (.ref c_InvalidWord) "__init__" = some (some (.ref f_CoreError___init__)))
    (xn_InvalidWord_value : PySem.W.findIn K (.ref c_InvalidWord) "value" = some none)
    (a_InvalidMany : PySem.W.nsIn K mainGlobals "InvalidMany" = some (some (.ref c_InvalidMany)))
    (xc_InvalidMany : ∃ nm q N bs sn sub ab col dd k0 k1 k2 k3 k5, K.lookup c_InvalidMany = some (excClassObj nm q c_InvalidMany N bs [.ref c_CoreError, .type "ValueError", .type "Exception", .type "BaseException", .type "object"] true sn sub ab col dd k0 k1 k2 k3 k5 "ValueError.__new__"))
    (xs_InvalidMany : PySem.W.findIn K (.ref c_InvalidMany) "__setattr__" = some (some (.builtin "object.__setattr__")))
    (xb_InvalidMany : PySem.W.subIn K (.ref c_InvalidMany) (.type "BaseException") = some true)
    (xy_InvalidMany : PySem.W.typeIn K (.ref c_InvalidMany) = some (.type "type"))
    (xk_InvalidMany : PySem.W.keepIn K (.ref c_InvalidMany) = true)
    (xi_InvalidMany : PySem.W.findIn K (.ref c_InvalidMany) "__init__" = some (some (.ref f_CoreError___init__)))
    (xn_InvalidMany_value : PySem.W.findIn K (.ref c_InvalidMany) "value" = some none)
    (a_DividedByNought : PySem.W.nsIn K mainGlobals "DividedByNought" = some (some (.ref c_DividedByNought)))
    (xc_DividedByNought : ∃ nm q N bs sn sub ab col dd k0 k1 k2 k3 k5, K.lookup c_DividedByNought = some (excClassObj nm q c_DividedByNought N bs [.ref c_CoreError, .type "ValueError", .type "Exception", .type "BaseException", .type "object"] true sn sub ab col dd k0 k1 k2 k3 k5 "ValueError.__new__"))
    (xs_DividedByNought : PySem.W.findIn K (.ref c_DividedByNought) "__setattr__" = some (some (.builtin "object.__setattr__")))
    (xb_DividedByNought : PySem.W.subIn K (.ref c_DividedByNought) (.type "BaseException") = some true)
    (xy_DividedByNought : PySem.W.typeIn K (.ref c_DividedByNought) = some (.type "type"))
    (xk_DividedByNought : PySem.W.keepIn K (.ref c_DividedByNought) = true)
    (xi_DividedByNought : PySem.W.findIn K (.ref c_DividedByNought) "__init__" = some (some (.ref f_DividedByNought___init__)))
    (xn_DividedByNought_value : PySem.W.findIn K (.ref c_DividedByNought) "value" = some none)
    (a_InvalidLow : PySem.W.nsIn K mainGlobals "InvalidLow" = some (some (.ref c_InvalidLow)))
    (xc_InvalidLow : ∃ nm q N bs sn sub ab col dd k0 k1 k2 k3 k5, K.lookup c_InvalidLow = some (excClassObj nm q c_InvalidLow N bs [.ref c_CoreError, .type "ValueError", .type "Exception", .type "BaseException", .type "object"] true sn sub ab col dd k0 k1 k2 k3 k5 "ValueError.__new__"))
    (xs_InvalidLow : PySem.W.findIn K (.ref c_InvalidLow) "__setattr__" = some (some (.builtin "object.__setattr__")))
    (xb_InvalidLow : PySem.W.subIn K (.ref c_InvalidLow) (.type "BaseException") = some true)
    (xy_InvalidLow : PySem.W.typeIn K (.ref c_InvalidLow) = some (.type "type"))
    (xk_InvalidLow : PySem.W.keepIn K (.ref c_InvalidLow) = true)
    (xi_InvalidLow : PySem.W.findIn K (.ref c_InvalidLow) "__init__" = some (some (.ref f_CoreError___init__)))
    (xn_InvalidLow_value : PySem.W.findIn K (.ref c_InvalidLow) "value" = some none)
    (l_CoreError___init__ : ∃ oc od kV dc pm an cd ct sl, d_CoreError___init__ = PySem.W.fnOf "__init__" "CoreError.__init__" (defArgs s_CoreError___init__) (defBody s_CoreError___init__) (defScope s_CoreError___init__) .none kV dc pm an cd ct ∧ K.lookup f_CoreError___init__ = some ⟨oc, od, .func d_CoreError___init__, sl⟩ ∧ PySem.W.codeIn K cd "CoreError.__init__" = true)
    (kp_CoreError___init__ : PySem.W.keepIn K (.ref f_CoreError___init__) = true)
    (xt_CoreError___init__ : PySem.W.typeIn K (.ref f_CoreError___init__) = some (.type "function"))
    (l_DividedByNought___init__ : ∃ oc od kV dc pm an cd ct sl, d_DividedByNought___init__ = PySem.W.fnOf "__init__" "DividedByNought.__init__" (defArgs s_DividedByNought___init__) (defBody s_DividedByNought___init__) (defScope s_DividedByNought___init__) .none kV dc pm an cd ct ∧ K.lookup f_DividedByNought___init__ = some ⟨oc, od, .func d_DividedByNought___init__, sl⟩ ∧ PySem.W.codeIn K cd "DividedByNought.__init__" = true)
    (kp_DividedByNought___init__ : PySem.W.keepIn K (.ref f_DividedByNought___init__) = true)
    (xt_DividedByNought___init__ : PySem.W.typeIn K (.ref f_DividedByNought___init__) = some (.type "function"))
    (a_is_integer : PySem.W.nsIn K mainGlobals "is_integer" = some (some (.ref f_is_integer)))
    (l_is_integer : ∃ oc od kV dc pm an cd ct sl, d_is_integer = PySem.W.fnOf "is_integer" "is_integer" (defArgs s_is_integer) (defBody s_is_integer) (defScope s_is_integer) .none kV dc pm an cd ct ∧ K.lookup f_is_integer = some ⟨oc, od, .func d_is_integer, sl⟩ ∧ PySem.W.codeIn K cd "is_integer" = true)
    (kp_is_integer : PySem.W.keepIn K (.ref f_is_integer) = true)
    (a_is_count : PySem.W.nsIn K mainGlobals "is_count" = some (some (.ref f_is_count)))
    (l_is_count : ∃ oc od kV dc pm an cd ct sl, d_is_count = PySem.W.fnOf "is_count" "is_count" (defArgs s_is_count) (defBody s_is_count) (defScope s_is_count) .none kV dc pm an cd ct ∧ K.lookup f_is_count = some ⟨oc, od, .func d_is_count, sl⟩ ∧ PySem.W.codeIn K cd "is_count" = true)
    (kp_is_count : PySem.W.keepIn K (.ref f_is_count) = true)
    (a_want_many : PySem.W.nsIn K mainGlobals "want_many" = some (some (.ref f_want_many)))
    (l_want_many : ∃ oc od kV dc pm an cd ct sl, d_want_many = PySem.W.fnOf "want_many" "want_many" (defArgs s_want_many) (defBody s_want_many) (defScope s_want_many) .none kV dc pm an cd ct ∧ K.lookup f_want_many = some ⟨oc, od, .func d_want_many, sl⟩ ∧ PySem.W.codeIn K cd "want_many" = true)
    (kp_want_many : PySem.W.keepIn K (.ref f_want_many) = true)
    (a_is_word : PySem.W.nsIn K mainGlobals "is_word" = some (some (.ref f_is_word)))
    (l_is_word : ∃ oc od kV dc pm an cd ct sl, d_is_word = PySem.W.fnOf "is_word" "is_word" (defArgs s_is_word) (defBody s_is_word) (defScope s_is_word) .none kV dc pm an cd ct ∧ K.lookup f_is_word = some ⟨oc, od, .func d_is_word, sl⟩ ∧ PySem.W.codeIn K cd "is_word" = true)
    (kp_is_word : PySem.W.keepIn K (.ref f_is_word) = true)
    (a_want_word : PySem.W.nsIn K mainGlobals "want_word" = some (some (.ref f_want_word)))
    (l_want_word : ∃ oc od kV dc pm an cd ct sl, d_want_word = PySem.W.fnOf "want_word" "want_word" (defArgs s_want_word) (defBody s_want_word) (defScope s_want_word) .none kV dc pm an cd ct ∧ K.lookup f_want_word = some ⟨oc, od, .func d_want_word, sl⟩ ∧ PySem.W.codeIn K cd "want_word" = true)
    (kp_want_word : PySem.W.keepIn K (.ref f_want_word) = true)
    (a_part_of : PySem.W.nsIn K mainGlobals "part_of" = some (some (.ref f_part_of)))
    (l_part_of : ∃ oc od kV dc pm an cd ct sl, d_part_of = PySem.W.fnOf "part_of" "part_of" (defArgs s_part_of) (defBody s_part_of) (defScope s_part_of) .none kV dc pm an cd ct ∧ K.lookup f_part_of = some ⟨oc, od, .func d_part_of, sl⟩ ∧ PySem.W.codeIn K cd "part_of" = true)
    (kp_part_of : PySem.W.keepIn K (.ref f_part_of) = true)
    (a_put_part : PySem.W.nsIn K mainGlobals "put_part" = some (some (.ref f_put_part)))
    (l_put_part : ∃ oc od kV dc pm an cd ct sl, d_put_part = PySem.W.fnOf "put_part" "put_part" (defArgs s_put_part) (defBody s_put_part) (defScope s_put_part) .none kV dc pm an cd ct ∧ K.lookup f_put_part = some ⟨oc, od, .func d_put_part, sl⟩ ∧ PySem.W.codeIn K cd "put_part" = true)
    (kp_put_part : PySem.W.keepIn K (.ref f_put_part) = true)
    (a_two_words : PySem.W.nsIn K mainGlobals "two_words" = some (some (.ref f_two_words)))
    (l_two_words : ∃ oc od kV dc pm an cd ct sl, d_two_words = PySem.W.fnOf "two_words" "two_words" (defArgs s_two_words) (defBody s_two_words) (defScope s_two_words) .none kV dc pm an cd ct ∧ K.lookup f_two_words = some ⟨oc, od, .func d_two_words, sl⟩ ∧ PySem.W.codeIn K cd "two_words" = true)
    (kp_two_words : PySem.W.keepIn K (.ref f_two_words) = true)
    (a_plus : PySem.W.nsIn K mainGlobals "plus" = some (some (.ref f_plus)))
    (l_plus : ∃ oc od kV dc pm an cd ct sl, d_plus = PySem.W.fnOf "plus" "plus" (defArgs s_plus) (defBody s_plus) (defScope s_plus) .none kV dc pm an cd ct ∧ K.lookup f_plus = some ⟨oc, od, .func d_plus, sl⟩ ∧ PySem.W.codeIn K cd "plus" = true)
    (kp_plus : PySem.W.keepIn K (.ref f_plus) = true)
    (a_minus : PySem.W.nsIn K mainGlobals "minus" = some (some (.ref f_minus)))
    (l_minus : ∃ oc od kV dc pm an cd ct sl, d_minus = PySem.W.fnOf "minus" "minus" (defArgs s_minus) (defBody s_minus) (defScope s_minus) .none kV dc pm an cd ct ∧ K.lookup f_minus = some ⟨oc, od, .func d_minus, sl⟩ ∧ PySem.W.codeIn K cd "minus" = true)
    (kp_minus : PySem.W.keepIn K (.ref f_minus) = true)
    (a_times : PySem.W.nsIn K mainGlobals "times" = some (some (.ref f_times)))
    (l_times : ∃ oc od kV dc pm an cd ct sl, d_times = PySem.W.fnOf "times" "times" (defArgs s_times) (defBody s_times) (defScope s_times) .none kV dc pm an cd ct ∧ K.lookup f_times = some ⟨oc, od, .func d_times, sl⟩ ∧ PySem.W.codeIn K cd "times" = true)
    (kp_times : PySem.W.keepIn K (.ref f_times) = true)
    (a_over : PySem.W.nsIn K mainGlobals "over" = some (some (.ref f_over)))
    (l_over : ∃ oc od kV dc pm an cd ct sl, d_over = PySem.W.fnOf "over" "over" (defArgs s_over) (defBody s_over) (defScope s_over) .none kV dc pm an cd ct ∧ K.lookup f_over = some ⟨oc, od, .func d_over, sl⟩ ∧ PySem.W.codeIn K cd "over" = true)
    (kp_over : PySem.W.keepIn K (.ref f_over) = true)
    (a_both : PySem.W.nsIn K mainGlobals "both" = some (some (.ref f_both)))
    (l_both : ∃ oc od kV dc pm an cd ct sl, d_both = PySem.W.fnOf "both" "both" (defArgs s_both) (defBody s_both) (defScope s_both) .none kV dc pm an cd ct ∧ K.lookup f_both = some ⟨oc, od, .func d_both, sl⟩ ∧ PySem.W.codeIn K cd "both" = true)
    (kp_both : PySem.W.keepIn K (.ref f_both) = true)
    (a_either : PySem.W.nsIn K mainGlobals "either" = some (some (.ref f_either)))
    (l_either : ∃ oc od kV dc pm an cd ct sl, d_either = PySem.W.fnOf "either" "either" (defArgs s_either) (defBody s_either) (defScope s_either) .none kV dc pm an cd ct ∧ K.lookup f_either = some ⟨oc, od, .func d_either, sl⟩ ∧ PySem.W.codeIn K cd "either" = true)
    (kp_either : PySem.W.keepIn K (.ref f_either) = true)
    (a_unlike : PySem.W.nsIn K mainGlobals "unlike" = some (some (.ref f_unlike)))
    (l_unlike : ∃ oc od kV dc pm an cd ct sl, d_unlike = PySem.W.fnOf "unlike" "unlike" (defArgs s_unlike) (defBody s_unlike) (defScope s_unlike) .none kV dc pm an cd ct ∧ K.lookup f_unlike = some ⟨oc, od, .func d_unlike, sl⟩ ∧ PySem.W.codeIn K cd "unlike" = true)
    (kp_unlike : PySem.W.keepIn K (.ref f_unlike) = true)
    (a_shifted_up : PySem.W.nsIn K mainGlobals "shifted_up" = some (some (.ref f_shifted_up)))
    (l_shifted_up : ∃ oc od kV dc pm an cd ct sl, d_shifted_up = PySem.W.fnOf "shifted_up" "shifted_up" (defArgs s_shifted_up) (defBody s_shifted_up) (defScope s_shifted_up) .none kV dc pm an cd ct ∧ K.lookup f_shifted_up = some ⟨oc, od, .func d_shifted_up, sl⟩ ∧ PySem.W.codeIn K cd "shifted_up" = true)
    (kp_shifted_up : PySem.W.keepIn K (.ref f_shifted_up) = true)
    (a_shifted_down : PySem.W.nsIn K mainGlobals "shifted_down" = some (some (.ref f_shifted_down)))
    (l_shifted_down : ∃ oc od kV dc pm an cd ct sl, d_shifted_down = PySem.W.fnOf "shifted_down" "shifted_down" (defArgs s_shifted_down) (defBody s_shifted_down) (defScope s_shifted_down) .none kV dc pm an cd ct ∧ K.lookup f_shifted_down = some ⟨oc, od, .func d_shifted_down, sl⟩ ∧ PySem.W.codeIn K cd "shifted_down" = true)
    (kp_shifted_down : PySem.W.keepIn K (.ref f_shifted_down) = true)
    (a_signed : PySem.W.nsIn K mainGlobals "signed" = some (some (.ref f_signed)))
    (l_signed : ∃ oc od kV dc pm an cd ct sl, d_signed = PySem.W.fnOf "signed" "signed" (defArgs s_signed) (defBody s_signed) (defScope s_signed) .none kV dc pm an cd ct ∧ K.lookup f_signed = some ⟨oc, od, .func d_signed, sl⟩ ∧ PySem.W.codeIn K cd "signed" = true)
    (kp_signed : PySem.W.keepIn K (.ref f_signed) = true)
    (a_bits : PySem.W.nsIn K mainGlobals "bits" = some (some (.ref f_bits)))
    (l_bits : ∃ oc od kV dc pm an cd ct sl, d_bits = PySem.W.fnOf "bits" "bits" (defArgs s_bits) (defBody s_bits) (defScope s_bits) .none kV dc pm an cd ct ∧ K.lookup f_bits = some ⟨oc, od, .func d_bits, sl⟩ ∧ PySem.W.codeIn K cd "bits" = true)
    (kp_bits : PySem.W.keepIn K (.ref f_bits) = true)
    (a_with_bits : PySem.W.nsIn K mainGlobals "with_bits" = some (some (.ref f_with_bits)))
    (l_with_bits : ∃ oc od kV dc pm an cd ct sl, d_with_bits = PySem.W.fnOf "with_bits" "with_bits" (defArgs s_with_bits) (defBody s_with_bits) (defScope s_with_bits) .none kV dc pm an cd ct ∧ K.lookup f_with_bits = some ⟨oc, od, .func d_with_bits, sl⟩ ∧ PySem.W.codeIn K cd "with_bits" = true)
    (kp_with_bits : PySem.W.keepIn K (.ref f_with_bits) = true)
    (a__law_pot : PySem.W.nsIn K mainGlobals "_law_pot" = some (some (.ref f__law_pot)))
    (l__law_pot : ∃ oc od kV dc pm an cd ct sl, d__law_pot = PySem.W.fnOf "_law_pot" "_law_pot" (defArgs s__law_pot) (defBody s__law_pot) (defScope s__law_pot) .none kV dc pm an cd ct ∧ K.lookup f__law_pot = some ⟨oc, od, .func d__law_pot, sl⟩ ∧ PySem.W.codeIn K cd "_law_pot" = true)
    (kp__law_pot : PySem.W.keepIn K (.ref f__law_pot) = true)
    (a__law_draw : PySem.W.nsIn K mainGlobals "_law_draw" = some (some (.ref f__law_draw)))
    (l__law_draw : ∃ oc od kV dc pm an cd ct sl, d__law_draw = PySem.W.fnOf "_law_draw" "_law_draw" (defArgs s__law_draw) (defBody s__law_draw) (defScope s__law_draw) .none kV dc pm an cd ct ∧ K.lookup f__law_draw = some ⟨oc, od, .func d__law_draw, sl⟩ ∧ PySem.W.codeIn K cd "_law_draw" = true)
    (kp__law_draw : PySem.W.keepIn K (.ref f__law_draw) = true)
    (a__law_pick : PySem.W.nsIn K mainGlobals "_law_pick" = some (some (.ref f__law_pick)))
    (l__law_pick : ∃ oc od kV dc pm an cd ct sl, d__law_pick = PySem.W.fnOf "_law_pick" "_law_pick" (defArgs s__law_pick) (defBody s__law_pick) (defScope s__law_pick) .none kV dc pm an cd ct ∧ K.lookup f__law_pick = some ⟨oc, od, .func d__law_pick, sl⟩ ∧ PySem.W.codeIn K cd "_law_pick" = true)
    (kp__law_pick : PySem.W.keepIn K (.ref f__law_pick) = true)
    (a__law_word : PySem.W.nsIn K mainGlobals "_law_word" = some (some (.ref f__law_word)))
    (l__law_word : ∃ oc od kV dc pm an cd ct sl, d__law_word = PySem.W.fnOf "_law_word" "_law_word" (defArgs s__law_word) (defBody s__law_word) (defScope s__law_word) .none kV dc pm an cd ct ∧ K.lookup f__law_word = some ⟨oc, od, .func d__law_word, sl⟩ ∧ PySem.W.codeIn K cd "_law_word" = true)
    (kp__law_word : PySem.W.keepIn K (.ref f__law_word) = true)
    (a__law_list : PySem.W.nsIn K mainGlobals "_law_list" = some (some (.ref f__law_list)))
    (l__law_list : ∃ oc od kV dc pm an cd ct sl, d__law_list = PySem.W.fnOf "_law_list" "_law_list" (defArgs s__law_list) (defBody s__law_list) (defScope s__law_list) .none kV dc pm an cd ct ∧ K.lookup f__law_list = some ⟨oc, od, .func d__law_list, sl⟩ ∧ PySem.W.codeIn K cd "_law_list" = true)
    (kp__law_list : PySem.W.keepIn K (.ref f__law_list) = true)
    (a__law_of : PySem.W.nsIn K mainGlobals "_law_of" = some (some (.ref f__law_of)))
    (l__law_of : ∃ oc od kV dc pm an cd ct sl, d__law_of = PySem.W.fnOf "_law_of" "_law_of" (defArgs s__law_of) (defBody s__law_of) (defScope s__law_of) .none kV dc pm an cd ct ∧ K.lookup f__law_of = some ⟨oc, od, .func d__law_of, sl⟩ ∧ PySem.W.codeIn K cd "_law_of" = true)
    (kp__law_of : PySem.W.keepIn K (.ref f__law_of) = true)
    (a__law_added : PySem.W.nsIn K mainGlobals "_law_added" = some (some (.ref f__law_added)))
    (l__law_added : ∃ oc od kV dc pm an cd ct sl, d__law_added = PySem.W.fnOf "_law_added" "_law_added" (defArgs s__law_added) (defBody s__law_added) (defScope s__law_added) .none kV dc pm an cd ct ∧ K.lookup f__law_added = some ⟨oc, od, .func d__law_added, sl⟩ ∧ PySem.W.codeIn K cd "_law_added" = true)
    (kp__law_added : PySem.W.keepIn K (.ref f__law_added) = true)
    (a__law_times : PySem.W.nsIn K mainGlobals "_law_times" = some (some (.ref f__law_times)))
    (l__law_times : ∃ oc od kV dc pm an cd ct sl, d__law_times = PySem.W.fnOf "_law_times" "_law_times" (defArgs s__law_times) (defBody s__law_times) (defScope s__law_times) .none kV dc pm an cd ct ∧ K.lookup f__law_times = some ⟨oc, od, .func d__law_times, sl⟩ ∧ PySem.W.codeIn K cd "_law_times" = true)
    (kp__law_times : PySem.W.keepIn K (.ref f__law_times) = true)
    (a__law_sums_right : PySem.W.nsIn K mainGlobals "_law_sums_right" = some (some (.ref f__law_sums_right)))
    (l__law_sums_right : ∃ oc od kV dc pm an cd ct sl, d__law_sums_right = PySem.W.fnOf "_law_sums_right" "_law_sums_right" (defArgs s__law_sums_right) (defBody s__law_sums_right) (defScope s__law_sums_right) .none kV dc pm an cd ct ∧ K.lookup f__law_sums_right = some ⟨oc, od, .func d__law_sums_right, sl⟩ ∧ PySem.W.codeIn K cd "_law_sums_right" = true)
    (kp__law_sums_right : PySem.W.keepIn K (.ref f__law_sums_right) = true)
    (a__law_shifts_right : PySem.W.nsIn K mainGlobals "_law_shifts_right" = some (some (.ref f__law_shifts_right)))
    (l__law_shifts_right : ∃ oc od kV dc pm an cd ct sl, d__law_shifts_right = PySem.W.fnOf "_law_shifts_right" "_law_shifts_right" (defArgs s__law_shifts_right) (defBody s__law_shifts_right) (defScope s__law_shifts_right) .none kV dc pm an cd ct ∧ K.lookup f__law_shifts_right = some ⟨oc, od, .func d__law_shifts_right, sl⟩ ∧ PySem.W.codeIn K cd "_law_shifts_right" = true)
    (kp__law_shifts_right : PySem.W.keepIn K (.ref f__law_shifts_right) = true)
    (a__law_bits_right : PySem.W.nsIn K mainGlobals "_law_bits_right" = some (some (.ref f__law_bits_right)))
    (l__law_bits_right : ∃ oc od kV dc pm an cd ct sl, d__law_bits_right = PySem.W.fnOf "_law_bits_right" "_law_bits_right" (defArgs s__law_bits_right) (defBody s__law_bits_right) (defScope s__law_bits_right) .none kV dc pm an cd ct ∧ K.lookup f__law_bits_right = some ⟨oc, od, .func d__law_bits_right, sl⟩ ∧ PySem.W.codeIn K cd "_law_bits_right" = true)
    (kp__law_bits_right : PySem.W.keepIn K (.ref f__law_bits_right) = true)
    (a_law : PySem.W.nsIn K mainGlobals "law" = some (some (.ref f_law)))
    (l_law : ∃ oc od kV dc pm an cd ct sl, d_law = PySem.W.fnOf "law" "law" (defArgs s_law) (defBody s_law) (defScope s_law) .none kV dc pm an cd ct ∧ K.lookup f_law = some ⟨oc, od, .func d_law, sl⟩ ∧ PySem.W.codeIn K cd "law" = true)
    (kp_law : PySem.W.keepIn K (.ref f_law) = true)
    (z_abs : PySem.W.nsIn K mainGlobals "abs" = some none)
    (z_bool : PySem.W.nsIn K mainGlobals "bool" = some none)
    (z_divmod : PySem.W.nsIn K mainGlobals "divmod" = some none)
    (z_enumerate : PySem.W.nsIn K mainGlobals "enumerate" = some none)
    (z_int : PySem.W.nsIn K mainGlobals "int" = some none)
    (z_isinstance : PySem.W.nsIn K mainGlobals "isinstance" = some none)
    (z_len : PySem.W.nsIn K mainGlobals "len" = some none)
    (z_max : PySem.W.nsIn K mainGlobals "max" = some none)
    (z_min : PySem.W.nsIn K mainGlobals "min" = some none)
    (z_range : PySem.W.nsIn K mainGlobals "range" = some none)
    (z_zip : PySem.W.nsIn K mainGlobals "zip" = some none)
    (v_MOST_WORD : PySem.W.nsIn K mainGlobals "MOST_WORD" = some (some (.int 65536 t_MOST_WORD)))
    (v_BITS : PySem.W.nsIn K mainGlobals "BITS" = some (some (.int 16 t_BITS)))
    : ∃ fd : FuncData, (∀ (s : Shared) (v : Value), BindsTo s fd ⟨[v], []⟩ [("_law_script", v)]) ∧ ∀ base : Heap, K.In base → base.Ns mainGlobals mg → FnOk l.prog w K mg base (L2.CX l.prog w) 8 fa fd ["_law_script"] (sp_law K) := by
  have T : Txt K mg ⟨f_CoreError___init__, d_CoreError___init__, f_DividedByNought___init__, d_DividedByNought___init__, f_is_integer, d_is_integer, f_is_count, d_is_count, f_want_many, d_want_many, f_is_word, d_is_word, f_want_word, d_want_word, f_part_of, d_part_of, f_put_part, d_put_part, f_two_words, d_two_words, f_plus, d_plus, f_minus, d_minus, f_times, d_times, f_over, d_over, f_both, d_both, f_either, d_either, f_unlike, d_unlike, f_shifted_up, d_shifted_up, f_shifted_down, d_shifted_down, f_signed, d_signed, f_bits, d_bits, f_with_bits, d_with_bits, f__law_pot, d__law_pot, f__law_draw, d__law_draw, f__law_pick, d__law_pick, f__law_word, d__law_word, f__law_list, d__law_list, f__law_of, d__law_of, f__law_added, d__law_added, f__law_times, d__law_times, f__law_sums_right, d__law_sums_right, f__law_shifts_right, d__law_shifts_right, f__law_bits_right, d__law_bits_right, f_law, d_law, c_CoreError, c_InvalidWord, c_InvalidMany, c_DividedByNought, c_InvalidLow, t_MOST_WORD, t_BITS⟩ := {
    g_CoreError := PySem.W.mg_of X G a_CoreError,
    x_CoreError := (by obtain ⟨nm, q, N, bs, sn, sub, ab, col, dd, k0, k1, k2, k3, k5, e⟩ := xc_CoreError; exact ⟨⟨nm, q, N, bs, _, sn, sub, ab, col, dd, k0, k1, k2, k3, k5, e, by simp [PySem.HandSPX.refsVE]⟩, xs_CoreError, xb_CoreError, xy_CoreError, xk_CoreError⟩),
    xi_CoreError := xi_CoreError,
    xn_CoreError_value := xn_CoreError_value,
    g_InvalidWord := PySem.W.mg_of X G a_InvalidWord,
    x_InvalidWord := (by obtain ⟨nm, q, N, bs, sn, sub, ab, col, dd, k0, k1, k2, k3, k5, e⟩ := xc_InvalidWord; exact ⟨⟨nm, q, N, bs, _, sn, sub, ab, col, dd, k0, k1, k2, k3, k5, e, by simp [PySem.HandSPX.refsVE]⟩, xs_InvalidWord, xb_InvalidWord, xy_InvalidWord, xk_InvalidWord⟩),
    xi_InvalidWord := xi_InvalidWord,
    xn_InvalidWord_value := xn_InvalidWord_value,
    g_InvalidMany := PySem.W.mg_of X G a_InvalidMany,
    x_InvalidMany := (by obtain ⟨nm, q, N, bs, sn, sub, ab, col, dd, k0, k1, k2, k3, k5, e⟩ := xc_InvalidMany; exact ⟨⟨nm, q, N, bs, _, sn, sub, ab, col, dd, k0, k1, k2, k3, k5, e, by simp [PySem.HandSPX.refsVE]⟩, xs_InvalidMany, xb_InvalidMany, xy_InvalidMany, xk_InvalidMany⟩),
    xi_InvalidMany := xi_InvalidMany,
    xn_InvalidMany_value := xn_InvalidMany_value,
    g_DividedByNought := PySem.W.mg_of X G a_DividedByNought,
    x_DividedByNought := (by obtain ⟨nm, q, N, bs, sn, sub, ab, col, dd, k0, k1, k2, k3, k5, e⟩ := xc_DividedByNought; exact ⟨⟨nm, q, N, bs, _, sn, sub, ab, col, dd, k0, k1, k2, k3, k5, e, by simp [PySem.HandSPX.refsVE]⟩, xs_DividedByNought, xb_DividedByNought, xy_DividedByNought, xk_DividedByNought⟩),
    xi_DividedByNought := xi_DividedByNought,
    xn_DividedByNought_value := xn_DividedByNought_value,
    g_InvalidLow := PySem.W.mg_of X G a_InvalidLow,
    x_InvalidLow := (by obtain ⟨nm, q, N, bs, sn, sub, ab, col, dd, k0, k1, k2, k3, k5, e⟩ := xc_InvalidLow; exact ⟨⟨nm, q, N, bs, _, sn, sub, ab, col, dd, k0, k1, k2, k3, k5, e, by simp [PySem.HandSPX.refsVE]⟩, xs_InvalidLow, xb_InvalidLow, xy_InvalidLow, xk_InvalidLow⟩),
    xi_InvalidLow := xi_InvalidLow,
    xn_InvalidLow_value := xn_InvalidLow_value,
    F_CoreError___init__ := ⟨l_CoreError___init__, kp_CoreError___init__⟩,
    b_CoreError___init__ := (Fun.binds (st := s_CoreError___init__) ⟨l_CoreError___init__, kp_CoreError___init__⟩ fun _ _ _ _ _ _ us hl => match us, hl with | [_, _], _ => rfl),
    xt_CoreError___init__ := xt_CoreError___init__,
    F_DividedByNought___init__ := ⟨l_DividedByNought___init__, kp_DividedByNought___init__⟩,
    b_DividedByNought___init__ := (Fun.binds (st := s_DividedByNought___init__) ⟨l_DividedByNought___init__, kp_DividedByNought___init__⟩ fun _ _ _ _ _ _ us hl => match us, hl with | [_], _ => rfl),
    xt_DividedByNought___init__ := xt_DividedByNought___init__,
    m_is_integer := PySem.W.mg_of X G a_is_integer,
    F_is_integer := ⟨l_is_integer, kp_is_integer⟩,
    b_is_integer := (Fun.binds (st := s_is_integer) ⟨l_is_integer, kp_is_integer⟩ fun _ _ _ _ _ _ us hl => match us, hl with | [_], _ => rfl),
    m_is_count := PySem.W.mg_of X G a_is_count,
    F_is_count := ⟨l_is_count, kp_is_count⟩,
    b_is_count := (Fun.binds (st := s_is_count) ⟨l_is_count, kp_is_count⟩ fun _ _ _ _ _ _ us hl => match us, hl with | [_], _ => rfl),
    m_want_many := PySem.W.mg_of X G a_want_many,
    F_want_many := ⟨l_want_many, kp_want_many⟩,
    b_want_many := (Fun.binds (st := s_want_many) ⟨l_want_many, kp_want_many⟩ fun _ _ _ _ _ _ us hl => match us, hl with | [_, _, _], _ => rfl),
    m_is_word := PySem.W.mg_of X G a_is_word,
    F_is_word := ⟨l_is_word, kp_is_word⟩,
    b_is_word := (Fun.binds (st := s_is_word) ⟨l_is_word, kp_is_word⟩ fun _ _ _ _ _ _ us hl => match us, hl with | [_], _ => rfl),
    m_want_word := PySem.W.mg_of X G a_want_word,
    F_want_word := ⟨l_want_word, kp_want_word⟩,
    b_want_word := (Fun.binds (st := s_want_word) ⟨l_want_word, kp_want_word⟩ fun _ _ _ _ _ _ us hl => match us, hl with | [_], _ => rfl),
    m_part_of := PySem.W.mg_of X G a_part_of,
    F_part_of := ⟨l_part_of, kp_part_of⟩,
    b_part_of := (Fun.binds (st := s_part_of) ⟨l_part_of, kp_part_of⟩ fun _ _ _ _ _ _ us hl => match us, hl with | [_, _, _], _ => rfl),
    m_put_part := PySem.W.mg_of X G a_put_part,
    F_put_part := ⟨l_put_part, kp_put_part⟩,
    b_put_part := (Fun.binds (st := s_put_part) ⟨l_put_part, kp_put_part⟩ fun _ _ _ _ _ _ us hl => match us, hl with | [_, _, _, _], _ => rfl),
    m_two_words := PySem.W.mg_of X G a_two_words,
    F_two_words := ⟨l_two_words, kp_two_words⟩,
    b_two_words := (Fun.binds (st := s_two_words) ⟨l_two_words, kp_two_words⟩ fun _ _ _ _ _ _ us hl => match us, hl with | [_, _], _ => rfl),
    m_plus := PySem.W.mg_of X G a_plus,
    F_plus := ⟨l_plus, kp_plus⟩,
    b_plus := (Fun.binds (st := s_plus) ⟨l_plus, kp_plus⟩ fun _ _ _ _ _ _ us hl => match us, hl with | [_, _], _ => rfl),
    m_minus := PySem.W.mg_of X G a_minus,
    F_minus := ⟨l_minus, kp_minus⟩,
    b_minus := (Fun.binds (st := s_minus) ⟨l_minus, kp_minus⟩ fun _ _ _ _ _ _ us hl => match us, hl with | [_, _], _ => rfl),
    m_times := PySem.W.mg_of X G a_times,
    F_times := ⟨l_times, kp_times⟩,
    b_times := (Fun.binds (st := s_times) ⟨l_times, kp_times⟩ fun _ _ _ _ _ _ us hl => match us, hl with | [_, _], _ => rfl),
    m_over := PySem.W.mg_of X G a_over,
    F_over := ⟨l_over, kp_over⟩,
    b_over := (Fun.binds (st := s_over) ⟨l_over, kp_over⟩ fun _ _ _ _ _ _ us hl => match us, hl with | [_, _], _ => rfl),
    m_both := PySem.W.mg_of X G a_both,
    F_both := ⟨l_both, kp_both⟩,
    b_both := (Fun.binds (st := s_both) ⟨l_both, kp_both⟩ fun _ _ _ _ _ _ us hl => match us, hl with | [_, _], _ => rfl),
    m_either := PySem.W.mg_of X G a_either,
    F_either := ⟨l_either, kp_either⟩,
    b_either := (Fun.binds (st := s_either) ⟨l_either, kp_either⟩ fun _ _ _ _ _ _ us hl => match us, hl with | [_, _], _ => rfl),
    m_unlike := PySem.W.mg_of X G a_unlike,
    F_unlike := ⟨l_unlike, kp_unlike⟩,
    b_unlike := (Fun.binds (st := s_unlike) ⟨l_unlike, kp_unlike⟩ fun _ _ _ _ _ _ us hl => match us, hl with | [_, _], _ => rfl),
    m_shifted_up := PySem.W.mg_of X G a_shifted_up,
    F_shifted_up := ⟨l_shifted_up, kp_shifted_up⟩,
    b_shifted_up := (Fun.binds (st := s_shifted_up) ⟨l_shifted_up, kp_shifted_up⟩ fun _ _ _ _ _ _ us hl => match us, hl with | [_, _], _ => rfl),
    m_shifted_down := PySem.W.mg_of X G a_shifted_down,
    F_shifted_down := ⟨l_shifted_down, kp_shifted_down⟩,
    b_shifted_down := (Fun.binds (st := s_shifted_down) ⟨l_shifted_down, kp_shifted_down⟩ fun _ _ _ _ _ _ us hl => match us, hl with | [_, _], _ => rfl),
    m_signed := PySem.W.mg_of X G a_signed,
    F_signed := ⟨l_signed, kp_signed⟩,
    b_signed := (Fun.binds (st := s_signed) ⟨l_signed, kp_signed⟩ fun _ _ _ _ _ _ us hl => match us, hl with | [_], _ => rfl),
    m_bits := PySem.W.mg_of X G a_bits,
    F_bits := ⟨l_bits, kp_bits⟩,
    b_bits := (Fun.binds (st := s_bits) ⟨l_bits, kp_bits⟩ fun _ _ _ _ _ _ us hl => match us, hl with | [_, _, _], _ => rfl),
    m_with_bits := PySem.W.mg_of X G a_with_bits,
    F_with_bits := ⟨l_with_bits, kp_with_bits⟩,
    b_with_bits := (Fun.binds (st := s_with_bits) ⟨l_with_bits, kp_with_bits⟩ fun _ _ _ _ _ _ us hl => match us, hl with | [_, _, _, _], _ => rfl),
    m__law_pot := PySem.W.mg_of X G a__law_pot,
    F__law_pot := ⟨l__law_pot, kp__law_pot⟩,
    b__law_pot := (Fun.binds (st := s__law_pot) ⟨l__law_pot, kp__law_pot⟩ fun _ _ _ _ _ _ us hl => match us, hl with | [_, _], _ => rfl),
    m__law_draw := PySem.W.mg_of X G a__law_draw,
    F__law_draw := ⟨l__law_draw, kp__law_draw⟩,
    b__law_draw := (Fun.binds (st := s__law_draw) ⟨l__law_draw, kp__law_draw⟩ fun _ _ _ _ _ _ us hl => match us, hl with | [_, _], _ => rfl),
    m__law_pick := PySem.W.mg_of X G a__law_pick,
    F__law_pick := ⟨l__law_pick, kp__law_pick⟩,
    b__law_pick := (Fun.binds (st := s__law_pick) ⟨l__law_pick, kp__law_pick⟩ fun _ _ _ _ _ _ us hl => match us, hl with | [_, _], _ => rfl),
    m__law_word := PySem.W.mg_of X G a__law_word,
    F__law_word := ⟨l__law_word, kp__law_word⟩,
    b__law_word := (Fun.binds (st := s__law_word) ⟨l__law_word, kp__law_word⟩ fun _ _ _ _ _ _ us hl => match us, hl with | [_], _ => rfl),
    m__law_list := PySem.W.mg_of X G a__law_list,
    F__law_list := ⟨l__law_list, kp__law_list⟩,
    b__law_list := (Fun.binds (st := s__law_list) ⟨l__law_list, kp__law_list⟩ fun _ _ _ _ _ _ us hl => match us, hl with | [_], _ => rfl),
    m__law_of := PySem.W.mg_of X G a__law_of,
    F__law_of := ⟨l__law_of, kp__law_of⟩,
    b__law_of := (Fun.binds (st := s__law_of) ⟨l__law_of, kp__law_of⟩ fun _ _ _ _ _ _ us hl => match us, hl with | [_], _ => rfl),
    m__law_added := PySem.W.mg_of X G a__law_added,
    F__law_added := ⟨l__law_added, kp__law_added⟩,
    b__law_added := (Fun.binds (st := s__law_added) ⟨l__law_added, kp__law_added⟩ fun _ _ _ _ _ _ us hl => match us, hl with | [_, _, _], _ => rfl),
    m__law_times := PySem.W.mg_of X G a__law_times,
    F__law_times := ⟨l__law_times, kp__law_times⟩,
    b__law_times := (Fun.binds (st := s__law_times) ⟨l__law_times, kp__law_times⟩ fun _ _ _ _ _ _ us hl => match us, hl with | [_, _], _ => rfl),
    m__law_sums_right := PySem.W.mg_of X G a__law_sums_right,
    F__law_sums_right := ⟨l__law_sums_right, kp__law_sums_right⟩,
    b__law_sums_right := (Fun.binds (st := s__law_sums_right) ⟨l__law_sums_right, kp__law_sums_right⟩ fun _ _ _ _ _ _ us hl => match us, hl with | [_, _], _ => rfl),
    m__law_shifts_right := PySem.W.mg_of X G a__law_shifts_right,
    F__law_shifts_right := ⟨l__law_shifts_right, kp__law_shifts_right⟩,
    b__law_shifts_right := (Fun.binds (st := s__law_shifts_right) ⟨l__law_shifts_right, kp__law_shifts_right⟩ fun _ _ _ _ _ _ us hl => match us, hl with | [_, _], _ => rfl),
    m__law_bits_right := PySem.W.mg_of X G a__law_bits_right,
    F__law_bits_right := ⟨l__law_bits_right, kp__law_bits_right⟩,
    b__law_bits_right := (Fun.binds (st := s__law_bits_right) ⟨l__law_bits_right, kp__law_bits_right⟩ fun _ _ _ _ _ _ us hl => match us, hl with | [_, _, _, _], _ => rfl),
    m_law := PySem.W.mg_of X G a_law,
    F_law := ⟨l_law, kp_law⟩,
    b_law := (Fun.binds (st := s_law) ⟨l_law, kp_law⟩ fun _ _ _ _ _ _ us hl => match us, hl with | [_], _ => rfl),
    kb_shifted_down_0_one_many := (kbn_of (st := s_shifted_down) ⟨l_shifted_down, kp_shifted_down⟩ (fun _ _ _ _ _ _ us ws h1 h2 => match us, h1, ws, h2 with | [], _, [_, _], _ => rfl) (fun r1 r2 => .cons (vals_getD r2 0) (.cons (vals_getD r2 1) (.nil)))),
    kb_times_0_one_other := (kbn_of (st := s_times) ⟨l_times, kp_times⟩ (fun _ _ _ _ _ _ us ws h1 h2 => match us, h1, ws, h2 with | [], _, [_, _], _ => rfl) (fun r1 r2 => .cons (vals_getD r2 0) (.cons (vals_getD r2 1) (.nil)))),
    z_abs := PySem.W.mg_none_of X G z_abs,
    z_bool := PySem.W.mg_none_of X G z_bool,
    z_divmod := PySem.W.mg_none_of X G z_divmod,
    z_enumerate := PySem.W.mg_none_of X G z_enumerate,
    z_int := PySem.W.mg_none_of X G z_int,
    z_isinstance := PySem.W.mg_none_of X G z_isinstance,
    z_len := PySem.W.mg_none_of X G z_len,
    z_max := PySem.W.mg_none_of X G z_max,
    z_min := PySem.W.mg_none_of X G z_min,
    z_range := PySem.W.mg_none_of X G z_range,
    z_zip := PySem.W.mg_none_of X G z_zip,
    v_MOST_WORD := PySem.W.mg_of X G v_MOST_WORD,
    v_BITS := PySem.W.mg_of X G v_BITS }
  have e := hfa.symm.trans T.m_law
  cases e
  refine ⟨d_law, fun s v => ?_, fun base _ _ => ok_law T⟩
  obtain ⟨oc, od, kV, dc, pm, an, cd, ct, sl, e, _, _⟩ := l_law
  rw [e]
  exact .of_eq rfl
theorem walk {l : PySem.W.OpenLaw} {q : Program} {loose : List Str} {XP : (Str → Option Value) → Heap → Prop} {YP : World → Heap → Prop} {d : DefRec} {K : Params → PySem.W.Frag} (hn : l.most = some 63) (hdf : d.params.defaults = [])
    (hY : ∀ (w : World) (h : Heap), YP w h → (K w.params).In h)
    (F : ∀ (w : World) (mg : Str → Option Value) (fa : Addr) (h : Heap), (K w.params).In h → h.Ns mainGlobals mg → mg d.name = some (.ref fa) →
      ∃ fd : FuncData, (∀ (s : Shared) (u : Value), BindsTo s fd ⟨[u], []⟩ [("_law_script", u)]) ∧ ∀ base : Heap, (K w.params).In base → base.Ns mainGlobals mg → FnOk l.prog w (K w.params) mg base (L2.CX l.prog w) 8 fa fd ["_law_script"] (sp_law (K w.params))) :
    PySem.W.WalkO q loose XP YP l.row.toRowW d [] (fun f vs => PySem.call f vs) :=
  L2.walk_of (n := 63) (k := 8) (x := "_law_script") (CX := fun w => L2.CX l.prog w) (sp := fun w => sp_law (K w.params)) hn (by decide) hdf ⟨rfl, by decide, by decide⟩ hY F (fun _ _ a ns hl _ hS => ⟨a, ns, rfl, hS, hl, fun _ => rfl⟩) fun w H s e s' z => (by
    obtain ⟨_, _, _, _, _, _, _, _, _, _, _, _, z⟩ := z
    exact z)
end Toy
open PySem PySem.W PyProof.Rows
set_option maxRecDepth 100000 in
set_option maxHeartbeats 0 in
theorem PySem.Challenge.cw_orderlycore_k11_whole_words_bit_by_bit_holds : PySem.Challenge.rw_orderlycore_k11_whole_words_bit_by_bit.Holds := by
  w_on; o_law; k_head; (case hw => w_witness2)
  k_fill
  refine Toy.walk (l := PySem.Challenge.rw_orderlycore_k11_whole_words_bit_by_bit) rfl rfl (fun w h Y => PySem.W.kIn_of Y) ?F
  case F =>
    intro w mg fa h KX G hmg
    refine' Toy.all_mk KX G hmg ?a_CoreError ?xc_CoreError ?xs_CoreError ?xb_CoreError ?xy_CoreError ?xk_CoreError ?xi_CoreError ?xn_CoreError_value ?a_InvalidWord ?xc_InvalidWord ?xs_InvalidWord ?xb_InvalidWord ?xy_InvalidWord ?xk_InvalidWord ?xi_InvalidWord ?xn_InvalidWord_value ?a_InvalidMany ?xc_InvalidMany ?xs_InvalidMany ?xb_InvalidMany ?xy_InvalidMany ?xk_InvalidMany ?xi_InvalidMany ?xn_InvalidMany_value ?a_DividedByNought ?xc_DividedByNought ?xs_DividedByNought ?xb_DividedByNought ?xy_DividedByNought ?xk_DividedByNought ?xi_DividedByNought ?xn_DividedByNought_value ?a_InvalidLow ?xc_InvalidLow ?xs_InvalidLow ?xb_InvalidLow ?xy_InvalidLow ?xk_InvalidLow ?xi_InvalidLow ?xn_InvalidLow_value ?l_CoreError___init__ ?kp_CoreError___init__ ?xt_CoreError___init__ ?l_DividedByNought___init__ ?kp_DividedByNought___init__ ?xt_DividedByNought___init__ ?a_is_integer ?l_is_integer ?kp_is_integer ?a_is_count ?l_is_count ?kp_is_count ?a_want_many ?l_want_many ?kp_want_many ?a_is_word ?l_is_word ?kp_is_word ?a_want_word ?l_want_word ?kp_want_word ?a_part_of ?l_part_of ?kp_part_of ?a_put_part ?l_put_part ?kp_put_part ?a_two_words ?l_two_words ?kp_two_words ?a_plus ?l_plus ?kp_plus ?a_minus ?l_minus ?kp_minus ?a_times ?l_times ?kp_times ?a_over ?l_over ?kp_over ?a_both ?l_both ?kp_both ?a_either ?l_either ?kp_either ?a_unlike ?l_unlike ?kp_unlike ?a_shifted_up ?l_shifted_up ?kp_shifted_up ?a_shifted_down ?l_shifted_down ?kp_shifted_down ?a_signed ?l_signed ?kp_signed ?a_bits ?l_bits ?kp_bits ?a_with_bits ?l_with_bits ?kp_with_bits ?a__law_pot ?l__law_pot ?kp__law_pot ?a__law_draw ?l__law_draw ?kp__law_draw ?a__law_pick ?l__law_pick ?kp__law_pick ?a__law_word ?l__law_word ?kp__law_word ?a__law_list ?l__law_list ?kp__law_list ?a__law_of ?l__law_of ?kp__law_of ?a__law_added ?l__law_added ?kp__law_added ?a__law_times ?l__law_times ?kp__law_times ?a__law_sums_right ?l__law_sums_right ?kp__law_sums_right ?a__law_shifts_right ?l__law_shifts_right ?kp__law_shifts_right ?a__law_bits_right ?l__law_bits_right ?kp__law_bits_right ?a_law ?l_law ?kp_law ?z_abs ?z_bool ?z_divmod ?z_enumerate ?z_int ?z_isinstance ?z_len ?z_max ?z_min ?z_range ?z_zip ?v_MOST_WORD ?v_BITS
    (case a_CoreError => k_is)
    (case xs_CoreError => k_is)
    (case xb_CoreError => k_is)
    (case xy_CoreError => k_is)
    (case xk_CoreError => k_is)
    (case xi_CoreError => k_is)
    (case xn_CoreError_value => k_is)
    (case a_InvalidWord => k_is)
    (case xs_InvalidWord => k_is)
    (case xb_InvalidWord => k_is)
    (case xy_InvalidWord => k_is)
    (case xk_InvalidWord => k_is)
    (case xi_InvalidWord => k_is)
    (case xn_InvalidWord_value => k_is)
    (case a_InvalidMany => k_is)
    (case xs_InvalidMany => k_is)
    (case xb_InvalidMany => k_is)
    (case xy_InvalidMany => k_is)
    (case xk_InvalidMany => k_is)
    (case xi_InvalidMany => k_is)
    (case xn_InvalidMany_value => k_is)
    (case a_DividedByNought => k_is)
    (case xs_DividedByNought => k_is)
    (case xb_DividedByNought => k_is)
    (case xy_DividedByNought => k_is)
    (case xk_DividedByNought => k_is)
    (case xi_DividedByNought => k_is)
    (case xn_DividedByNought_value => k_is)
    (case a_InvalidLow => k_is)
    (case xs_InvalidLow => k_is)
    (case xb_InvalidLow => k_is)
    (case xy_InvalidLow => k_is)
    (case xk_InvalidLow => k_is)
    (case xi_InvalidLow => k_is)
    (case xn_InvalidLow_value => k_is)
    (case a_is_integer => k_is)
    (case a_is_count => k_is)
    (case a_want_many => k_is)
    (case a_is_word => k_is)
    (case a_want_word => k_is)
    (case a_part_of => k_is)
    (case a_put_part => k_is)
    (case a_two_words => k_is)
    (case a_plus => k_is)
    (case a_minus => k_is)
    (case a_times => k_is)
    (case a_over => k_is)
    (case a_both => k_is)
    (case a_either => k_is)
    (case a_unlike => k_is)
    (case a_shifted_up => k_is)
    (case a_shifted_down => k_is)
    (case a_signed => k_is)
    (case a_bits => k_is)
    (case a_with_bits => k_is)
    (case a__law_pot => k_is)
    (case a__law_draw => k_is)
    (case a__law_pick => k_is)
    (case a__law_word => k_is)
    (case a__law_list => k_is)
    (case a__law_of => k_is)
    (case a__law_added => k_is)
    (case a__law_times => k_is)
    (case a__law_sums_right => k_is)
    (case a__law_shifts_right => k_is)
    (case a__law_bits_right => k_is)
    (case a_law => k_is)
    (case z_abs => k_is)
    (case z_bool => k_is)
    (case z_divmod => k_is)
    (case z_enumerate => k_is)
    (case z_int => k_is)
    (case z_isinstance => k_is)
    (case z_len => k_is)
    (case z_max => k_is)
    (case z_min => k_is)
    (case z_range => k_is)
    (case z_zip => k_is)
    (case v_MOST_WORD => k_is)
    (case v_BITS => k_is)
    (case xc_CoreError => exact ⟨_, _, _, _, _, _, _, _, _, _, _, _, _, _, by k_is⟩)
    (case xc_InvalidWord => exact ⟨_, _, _, _, _, _, _, _, _, _, _, _, _, _, by k_is⟩)
    (case xc_InvalidMany => exact ⟨_, _, _, _, _, _, _, _, _, _, _, _, _, _, by k_is⟩)
    (case xc_DividedByNought => exact ⟨_, _, _, _, _, _, _, _, _, _, _, _, _, _, by k_is⟩)
    (case xc_InvalidLow => exact ⟨_, _, _, _, _, _, _, _, _, _, _, _, _, _, by k_is⟩)
    (case l_CoreError___init__ => exact ⟨_, _, _, _, _, _, _, _, _, rfl, by k_is, by k_is⟩)
    (case kp_CoreError___init__ => k_is)
    (case xt_CoreError___init__ => k_is)
    (case l_DividedByNought___init__ => exact ⟨_, _, _, _, _, _, _, _, _, rfl, by k_is, by k_is⟩)
    (case kp_DividedByNought___init__ => k_is)
    (case xt_DividedByNought___init__ => k_is)
    (case l_is_integer => exact ⟨_, _, _, _, _, _, _, _, _, rfl, by k_is, by k_is⟩)
    (case kp_is_integer => k_is)
    (case l_is_count => exact ⟨_, _, _, _, _, _, _, _, _, rfl, by k_is, by k_is⟩)
    (case kp_is_count => k_is)
    (case l_want_many => exact ⟨_, _, _, _, _, _, _, _, _, rfl, by k_is, by k_is⟩)
    (case kp_want_many => k_is)
    (case l_is_word => exact ⟨_, _, _, _, _, _, _, _, _, rfl, by k_is, by k_is⟩)
    (case kp_is_word => k_is)
    (case l_want_word => exact ⟨_, _, _, _, _, _, _, _, _, rfl, by k_is, by k_is⟩)
    (case kp_want_word => k_is)
    (case l_part_of => exact ⟨_, _, _, _, _, _, _, _, _, rfl, by k_is, by k_is⟩)
    (case kp_part_of => k_is)
    (case l_put_part => exact ⟨_, _, _, _, _, _, _, _, _, rfl, by k_is, by k_is⟩)
    (case kp_put_part => k_is)
    (case l_two_words => exact ⟨_, _, _, _, _, _, _, _, _, rfl, by k_is, by k_is⟩)
    (case kp_two_words => k_is)
    (case l_plus => exact ⟨_, _, _, _, _, _, _, _, _, rfl, by k_is, by k_is⟩)
    (case kp_plus => k_is)
    (case l_minus => exact ⟨_, _, _, _, _, _, _, _, _, rfl, by k_is, by k_is⟩)
    (case kp_minus => k_is)
    (case l_times => exact ⟨_, _, _, _, _, _, _, _, _, rfl, by k_is, by k_is⟩)
    (case kp_times => k_is)
    (case l_over => exact ⟨_, _, _, _, _, _, _, _, _, rfl, by k_is, by k_is⟩)
    (case kp_over => k_is)
    (case l_both => exact ⟨_, _, _, _, _, _, _, _, _, rfl, by k_is, by k_is⟩)
    (case kp_both => k_is)
    (case l_either => exact ⟨_, _, _, _, _, _, _, _, _, rfl, by k_is, by k_is⟩)
    (case kp_either => k_is)
    (case l_unlike => exact ⟨_, _, _, _, _, _, _, _, _, rfl, by k_is, by k_is⟩)
    (case kp_unlike => k_is)
    (case l_shifted_up => exact ⟨_, _, _, _, _, _, _, _, _, rfl, by k_is, by k_is⟩)
    (case kp_shifted_up => k_is)
    (case l_shifted_down => exact ⟨_, _, _, _, _, _, _, _, _, rfl, by k_is, by k_is⟩)
    (case kp_shifted_down => k_is)
    (case l_signed => exact ⟨_, _, _, _, _, _, _, _, _, rfl, by k_is, by k_is⟩)
    (case kp_signed => k_is)
    (case l_bits => exact ⟨_, _, _, _, _, _, _, _, _, rfl, by k_is, by k_is⟩)
    (case kp_bits => k_is)
    (case l_with_bits => exact ⟨_, _, _, _, _, _, _, _, _, rfl, by k_is, by k_is⟩)
    (case kp_with_bits => k_is)
    (case l__law_pot => exact ⟨_, _, _, _, _, _, _, _, _, rfl, by k_is, by k_is⟩)
    (case kp__law_pot => k_is)
    (case l__law_draw => exact ⟨_, _, _, _, _, _, _, _, _, rfl, by k_is, by k_is⟩)
    (case kp__law_draw => k_is)
    (case l__law_pick => exact ⟨_, _, _, _, _, _, _, _, _, rfl, by k_is, by k_is⟩)
    (case kp__law_pick => k_is)
    (case l__law_word => exact ⟨_, _, _, _, _, _, _, _, _, rfl, by k_is, by k_is⟩)
    (case kp__law_word => k_is)
    (case l__law_list => exact ⟨_, _, _, _, _, _, _, _, _, rfl, by k_is, by k_is⟩)
    (case kp__law_list => k_is)
    (case l__law_of => exact ⟨_, _, _, _, _, _, _, _, _, rfl, by k_is, by k_is⟩)
    (case kp__law_of => k_is)
    (case l__law_added => exact ⟨_, _, _, _, _, _, _, _, _, rfl, by k_is, by k_is⟩)
    (case kp__law_added => k_is)
    (case l__law_times => exact ⟨_, _, _, _, _, _, _, _, _, rfl, by k_is, by k_is⟩)
    (case kp__law_times => k_is)
    (case l__law_sums_right => exact ⟨_, _, _, _, _, _, _, _, _, rfl, by k_is, by k_is⟩)
    (case kp__law_sums_right => k_is)
    (case l__law_shifts_right => exact ⟨_, _, _, _, _, _, _, _, _, rfl, by k_is, by k_is⟩)
    (case kp__law_shifts_right => k_is)
    (case l__law_bits_right => exact ⟨_, _, _, _, _, _, _, _, _, rfl, by k_is, by k_is⟩)
    (case kp__law_bits_right => k_is)
    (case l_law => exact ⟨_, _, _, _, _, _, _, _, _, rfl, by k_is, by k_is⟩)
    (case kp_law => k_is)
#print axioms PySem.Challenge.cw_orderlycore_k11_whole_words_bit_by_bit_holds
