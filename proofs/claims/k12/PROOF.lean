import PyProof.Rows.All
import Wide.All
import OpenK.AllK
import Wide.FinOn
import HandS.ForMost
import HandS.ForExc
import HandS.Property
import HandS.IsInst
import HandS.ExcInit
import HandS.Defaults
import HandS.MakeKwOnly
import HandS.Flow
import HandS.CallSlots
import HandS.Evl
import HandS.Wide
import PySem.Challenge.RW_orderlycore_k12_whole_whims_taken
set_option Elab.async false
set_option linter.all false
set_option maxRecDepth 100000
set_option maxHeartbeats 4000000
namespace Toy
open PySem L2
theorem exm_self {K : PySem.W.Frag} {S : Addr} (h1 : PySem.W.subIn K (.ref S) (.type "BaseException") = some true) (h2 : PySem.W.isClsIn K S = true) (h3 : PySem.W.typeIn K (.ref S) = some (.type "type")) (h4 : PySem.W.subIn K (.ref S) (.ref S) = some true) :
    PySem.W.exmOne K (.ref S) (.ref S) = some true := by
  have e1 : (PySem.W.subIn K (.ref S) (.type "BaseException") == some true) = true := by rw [h1] <;> rfl
  have e2 : ((PySem.W.clsIn K S).isSome && PySem.W.typeIn K (.ref S) == some (.type "type")) = true := by
    have h2' : (PySem.W.clsIn K S).isSome = true := h2
    rw [h2', h3] <;> rfl
  show (if (PySem.W.subIn K (.ref S) (.type "BaseException") == some true) = true then (if ((PySem.W.clsIn K S).isSome && PySem.W.typeIn K (.ref S) == some (.type "type")) = true then PySem.W.subIn K (.ref S) (.ref S) else none) else none) = some true
  rw [if_pos e1, if_pos e2]
  exact h4
theorem vals_getD {vs : List V} {us : List Value} (r : Vals vs us) (i : Nat) : RelV (vs.getD i V.non) (us.getD i PySem.Value.none) := by
  induction r generalizing i with
  | nil => rfl
  | cons h t ih =>
    cases i with
    | zero => exact h
    | succ i => exact ih i
theorem kbn_of {K : PySem.W.Frag} {x qual : Str} {st : Stmt} {f : Addr} {fd : FuncData} {ps ks : List Str} {n : Nat} {g : List Value → List Value → List Value} {gV : List V → List V → List V} (F : Fun K x qual st f fd)
    (h : ∀ (kV doc pm : Value) (an : Option Addr) (cdv ct : Value) (us ws : List Value), us.length = n → ws.length = ks.length → bindArgs (PySem.W.fnOf x qual (defArgs st) (defBody st) (defScope st) .none kV doc pm an cdv ct) ⟨us, ks.zip ws⟩ = pure (ps.zip (g us ws)))
    (hr : ∀ {vs : List V} {us : List Value} {zs : List V} {ws : List Value}, Vals vs us → Vals zs ws → Vals (gV vs zs) (g us ws)) : KBn K fd ps n ks g gV := by
  obtain ⟨oc, od, kV, doc, pm, an, cdv, ct, osl, rfl, lk, hcd⟩ := F.ex
  exact ⟨fun s us ws _ h1 h2 => .of_eq (h kV doc pm an cdv ct us ws h1 h2), hr⟩
theorem same_new {H : Hp} {p : Addr} {o : HO} (h : H p = none) : Same H (upd H p o) := fun b u e => by
  rw [upd_ne (ne_of_none e h)]
  exact e
theorem same_ty {K : PySem.W.Frag} {H H' : Hp} {v : V} {t : Value} (e : Same H H') (h : TyX K H v t) : TyX K H' v t := by
  cases h with
  | base h =>
    refine .base ?_
    cases h with
    | non => exact .non
    | bl x => exact .bl x
    | int i => exact .int i
    | str x => exact .str x
    | flt x => exact .flt x
    | lst q => exact .lst (e _ _ q)
    | frz q => exact .frz (e _ _ q)
    | tup q => exact .tup (e _ _ q)
    | dK q => exact .dK (e _ _ q)
    | dT q => exact .dT (e _ _ q)
    | ins q cl ha hn htk hm => exact .ins (e _ _ q) cl ha hn htk hm
  | byt b => exact .byt b
  | set q => exact .set (e _ _ q)
  | kList q c => exact .kList q c
  | kTuple q c => exact .kTuple q c
  | kDict q c => exact .kDict q c
  | fTuple q => exact .fTuple (e _ _ q)
  | fDict q => exact .fDict (e _ _ q)
/-! ### stepping through a reading -/
section
variable {K : PySem.W.Frag} {σ τ : St} {H H' : Hp} {Q : VK} {D : Ends} {nx bk ct : St → Hp → Prop} {rt : VK} {v x y : V} {te ta tb : TE} {t u : TS} {c d : TT} {p : Addr}
theorem w_in {N : List Str} {vs : List V} (h : start N vs = σ) (q : t D σ H) : t D (start N vs) H := by rw [h]; exact q
theorem w_var {i : Nat} (h : σ[i]? = some (some v)) (q : Q v H) : tVar i σ H Q := ⟨v, h, q⟩
theorem w_c (q : Q v H) : tC v σ H Q := q
theorem w_op {r : R2} (q : ta σ H fun x H1 => tb σ H1 fun y H2 => r x y H2 Q) : tOp r ta tb σ H Q := q
theorem w_un {r : V → Hp → VK → Prop} (q : ta σ H fun x H1 => r x H1 Q) : tUn r ta σ H Q := q
theorem w_I0 {g : Int → Int → V} {i j : Int} (q : Q (g i j) H) : rI0 g (.int i) (.int j) H Q := ⟨i, j, rfl, rfl, q⟩
theorem w_I {C : Int → Int → Prop} {g : Int → Int → V} {i j : Int} (hc : C i j) (q : Q (g i j) H) : rI C g (.int i) (.int j) H Q := ⟨i, j, rfl, rfl, hc, q⟩
theorem w_eq (h : scal x y = true) (q : Q (.bl (decide (x = y))) H) : rEq x y H Q := ⟨h, q⟩
theorem w_ne (h : scal x y = true) (q : Q (.bl (!decide (x = y))) H) : rNe x y H Q := ⟨h, q⟩
theorem w_cb {r : List V → Hp → VK → Prop} {t : TA} (q : t σ H fun vs H1 => r vs H1 Q) : tCB r t σ H Q := q
theorem w_nil {Q : List V → Hp → Prop} (q : Q [] H) : tNil σ H Q := q
theorem w_cons {Q : List V → Hp → Prop} {tr : TA} (q : ta σ H fun x H1 => tr σ H1 fun xs H2 => Q (x :: xs) H2) : tCons ta tr σ H Q := q
theorem w_call {sp : Sp} {dvs : List V} {E : XK} {t : TA} (q : t σ H fun vs H1 => sp (vs ++ dvs) H1 Q E) : tCall sp dvs E t σ H Q := q
theorem w_tup {t : TA} (q : t σ H fun xs H1 => xs.length ≤ sizeLine ∧ ∀ p, H1 p = none → Q (.ref p) (upd H1 p (.tup xs))) : tTup t σ H Q := q
theorem w_lst {t : TA} (q : t σ H fun xs H1 => xs.length ≤ sizeLine ∧ ∀ p, H1 p = none → Q (.ref p) (upd H1 p (.lst xs))) : tLst t σ H Q := q
theorem w_laid {n : Nat} {R : Addr → Prop} (h : n ≤ 100000) (q : ∀ p, H p = none → R p) : n ≤ sizeLine ∧ ∀ p, H p = none → R p := ⟨Nat.le_trans h (by decide), q⟩
def kFld (K : PySem.W.Frag) (f : Str) (Q : VK) (x : V) (H : Hp) : Prop := ∃ a C dx fs v, x = .ref a ∧ H a = some (.ins C dx fs) ∧ Cls K C ∧ NoAttr K C f ∧ fs.lookup f = some v ∧ Q v H
theorem w_fld0 {f : Str} (q : ta σ H fun x H1 => kFld K f Q x H1) : tFld K ta f σ H Q := q
theorem w_fld {f : Str} {a C dx : Addr} {fs : List (Str × V)} (h : H a = some (.ins C dx fs)) (hc : Cls K C) (hn : NoAttr K C f) (hl : fs.lookup f = some v) (q : Q v H) : kFld K f Q (.ref a) H :=
  ⟨a, C, dx, fs, v, rfl, h, hc, hn, hl, q⟩
def kSF (K : PySem.W.Frag) (f : Str) (nx : St → Hp → Prop) (σ : St) (y x : V) (H : Hp) : Prop := ∃ a C dx fs, x = .ref a ∧ H a = some (.ins C dx fs) ∧ Cls K C ∧ NoAttr K C f ∧ fs.length < 1000 ∧ nx σ (upd H a (.ins C dx (putF f y fs)))
theorem w_sfld0 {f : Str} {tv : TE} (q : tv σ H fun y H1 => ta σ H1 fun x H2 => kSF K f nx σ y x H2) : sFld K ta tv f ⟨nx, rt, bk, ct⟩ σ H := q
theorem w_sfld {f : Str} {a C dx : Addr} {fs fs' : List (Str × V)} (h : H a = some (.ins C dx fs)) (hc : Cls K C) (hn : NoAttr K C f) (hl : fs.length < 1000) (he : putF f y fs = fs') (q : nx σ (upd H a (.ins C dx fs'))) : kSF K f nx σ y (.ref a) H :=
  ⟨a, C, dx, fs, rfl, h, hc, hn, hl, by rw [he]; exact q⟩
theorem w_meth0 {C : Addr} {m : Str} {sp : Sp} {dvs : List V} {E : XK} {t : TA} (q : ta σ H fun x H1 => ∃ a dx fs, x = .ref a ∧ H1 a = some (.ins C dx fs) ∧ fs.lookup m = none ∧ t σ H1 fun vs H2 => sp (x :: (vs ++ dvs)) H2 Q E) : tMeth C m sp dvs E ta t σ H Q := q
theorem w_meth {R : Prop} {m : Str} {a C dx : Addr} {fs : List (Str × V)} (h : H a = some (.ins C dx fs)) (hl : fs.lookup m = none) (q : R) : ∃ a' dx fs, V.ref a = .ref a' ∧ H a' = some (.ins C dx fs) ∧ fs.lookup m = none ∧ R := ⟨a, dx, fs, rfl, h, hl, q⟩
theorem w_prop0 {C : Addr} {sp : Sp} {dvs : List V} {E : XK} (q : ta σ H fun x H1 => ∃ a dx fs, x = .ref a ∧ H1 a = some (.ins C dx fs) ∧ sp (.ref a :: dvs) H1 Q E) : tProp C sp dvs E ta σ H Q := q
theorem w_prop {C a dx : Addr} {fs : List (Str × V)} {sp : Sp} {dvs : List V} {E : XK} (h : H a = some (.ins C dx fs)) (q : sp (.ref a :: dvs) H Q E) : ∃ a' dx fs, V.ref a = .ref a' ∧ H a' = some (.ins C dx fs) ∧ sp (.ref a' :: dvs) H Q E := ⟨a, dx, fs, rfl, h, q⟩
theorem w_make {C : Addr} {sp : Sp} {dvs : List V} {E : XK} {t : TA} (q : t σ H fun vs H1 => ∀ x dx, H1 x = none → H1 dx = none → dx ≠ x → sp (.ref x :: (vs ++ dvs)) (upd (upd H1 dx (.own x)) x (.ins C dx [])) (fun v H2 => v = .non ∧ Q (.ref x) H2) E) : tMake C sp dvs E t σ H Q := q
theorem w_ixL {a : Addr} {xs : List V} {i : Int} (h : SqL K H a xs) (hi : atI xs i = some v) (q : Q v H) : rIxL K (.ref a) (.int i) H Q := ⟨a, xs, i, v, rfl, rfl, h, hi, q⟩
theorem w_ixT {a : Addr} {xs : List V} {i : Int} (h : SqT K H a xs) (hi : atI xs i = some v) (q : Q v H) : rIxT K (.ref a) (.int i) H Q := ⟨a, xs, i, v, rfl, rfl, h, hi, q⟩
theorem w_setL {a : Addr} {xs : List V} {i : Int} {j : Nat} {Q : Hp → Prop} (h : H a = some (.lst xs)) (hi : ixN xs.length i = some j) (q : Q (upd H a (.lst (xs.set j v)))) : rSetL (.ref a) (.int i) v H Q := ⟨a, xs, i, j, rfl, rfl, h, hi, q⟩
theorem w_gsub {to ti : TE} {ts : TSet} {Q : St → Hp → Prop} (q : to σ H fun o H1 => ti σ H1 fun i H2 => ts o i v H2 fun H3 => Q σ H3) : gSub to ti ts v σ H Q := q
theorem w_gname {i : Nat} {Q : St → Hp → Prop} (q : Q (σ.set i (some v)) H) : gName i v σ H Q := q
theorem w_gtup {n : Nat} {ts : TGs} {a : Addr} {xs : List V} {Q : St → Hp → Prop} (h : SqT K H a xs) (hn : xs.length = n) (q : ts xs σ H Q) : gTup K n ts (.ref a) σ H Q := ⟨a, xs, rfl, h, hn, q⟩
theorem w_gcons {tg : TG} {ts : TGs} {r : List V} {Q : St → Hp → Prop} (q : tg v σ H fun σ' H' => ts r σ' H' Q) : gCons tg ts (v :: r) σ H Q := ⟨v, r, rfl, q⟩
theorem w_gnil {Q : St → Hp → Prop} (q : Q σ H) : gNil [] σ H Q := ⟨rfl, q⟩
theorem w_seq (q : t ⟨u ⟨nx, rt, bk, ct⟩, rt, bk, ct⟩ σ H) : tSeq t u ⟨nx, rt, bk, ct⟩ σ H := q
theorem w_next (q : nx σ H) : tNext ⟨nx, rt, bk, ct⟩ σ H := q
theorem w_brk (q : bk σ H) : tBreak ⟨nx, rt, bk, ct⟩ σ H := q
theorem w_cont (q : ct σ H) : tCont ⟨nx, rt, bk, ct⟩ σ H := q
theorem w_drop (q : te σ H fun _ H1 => nx σ H1) : tDrop te ⟨nx, rt, bk, ct⟩ σ H := q
theorem w_ret (q : te σ H rt) : tRet te ⟨nx, rt, bk, ct⟩ σ H := q
theorem w_retN (q : rt .non H) : tRetN ⟨nx, rt, bk, ct⟩ σ H := q
theorem w_asg {g : TG} (q : te σ H fun x H1 => g x σ H1 nx) : tAsg te g ⟨nx, rt, bk, ct⟩ σ H := q
theorem w_ifs (q : c σ H fun b H1 => if b = true then t ⟨nx, rt, bk, ct⟩ σ H1 else u ⟨nx, rt, bk, ct⟩ σ H1) : tIfS c t u ⟨nx, rt, bk, ct⟩ σ H := q
theorem w_par {i j : Nat} {t : TA} (q : t σ H fun vs H1 => ∃ v w, vs = [v, w] ∧ nx ((σ.set i (some v)).set j (some w)) H1) : tPar i j t ⟨nx, rt, bk, ct⟩ σ H := q
theorem w_vw {v w : V} {R : V → V → Prop} (q : R v w) : ∃ v' w', [v, w] = [v', w'] ∧ R v' w' := ⟨v, w, rfl, q⟩
theorem w_if0 (q : c σ H fun b H1 => if b = true then ta σ H1 Q else tb σ H1 Q) : tIf c ta tb σ H Q := q
theorem w_test {Q : Bool → Hp → Prop} (q : te σ H fun x H' => ∃ k, x = .bl k ∧ Q k H') : tTest te σ H Q := q
theorem w_B {Q : Bool → Hp → Prop} (q : te σ H fun x H' => ∃ k, x = .bl k ∧ Q k H') : tB te σ H Q := q
theorem w_and {Q : Bool → Hp → Prop} (q : c σ H fun b H1 => if b = true then d σ H1 Q else Q false H1) : tAnd c d σ H Q := q
theorem w_or {Q : Bool → Hp → Prop} (q : c σ H fun b H1 => if b = true then Q true H1 else d σ H1 Q) : tOr c d σ H Q := q
theorem w_not {Q : Bool → Hp → Prop} (q : c σ H fun b H1 => Q (!b) H1) : tNot c σ H Q := q
theorem w_andV (q : ta σ H fun x H1 => ∃ k, x = .bl k ∧ if k = true then tb σ H1 Q else Q (.bl false) H1) : tAndV ta tb σ H Q := q
theorem w_orV (q : ta σ H fun x H1 => ∃ k, x = .bl k ∧ if k = true then Q (.bl true) H1 else tb σ H1 Q) : tOrV ta tb σ H Q := q
theorem w_notV (q : ta σ H fun x H1 => ∃ k, x = .bl k ∧ Q (.bl (!k)) H1) : tNotV ta σ H Q := q
theorem w_bl {b : Bool} {R : Bool → Prop} (q : R b) : ∃ k, V.bl b = .bl k ∧ R k := ⟨b, rfl, q⟩
theorem w_iI {i : Int} {R : Int → Prop} (q : R i) : ∃ k, [V.int i] = [.int k] ∧ R k := ⟨i, rfl, q⟩
theorem w_iIJ {i j : Int} {R : Int → Int → Prop} (q : R i j) : ∃ k l, [V.int i, V.int j] = [.int k, .int l] ∧ R k l := ⟨i, j, rfl, q⟩
theorem w_int1 {i : Int} {R : Int → Prop} {S : Bool → Prop} (q : R i) : (∃ k, [V.int i] = [.int k] ∧ R k) ∨ ∃ b, [V.int i] = [.bl b] ∧ S b := .inl ⟨i, rfl, q⟩
theorem w_lenL {a : Addr} {xs : List V} {R : List V → Prop} (h : SqL K H a xs) (q : R xs) : ∃ p ys, [V.ref a] = [.ref p] ∧ (SqL K H p ys ∨ SqT K H p ys) ∧ R ys := ⟨a, xs, rfl, .inl h, q⟩
theorem w_lenT {a : Addr} {xs : List V} {R : List V → Prop} (h : SqT K H a xs) (q : R xs) : ∃ p ys, [V.ref a] = [.ref p] ∧ (SqL K H p ys ∨ SqT K H p ys) ∧ R ys := ⟨a, xs, rfl, .inr h, q⟩
theorem ifT {c A B : Prop} [Decidable c] (h : c) (q : A) : if decide c = true then A else B := by rw [decide_eq_true h]; exact iteT q
theorem ifF {c A B : Prop} [Decidable c] (h : ¬ c) (q : B) : if decide c = true then A else B := by rw [decide_eq_false h]; exact iteF q
theorem ifT' {c A B : Prop} [Decidable c] (h : c) (q : B) : if (!decide c) = true then A else B := by rw [decide_eq_true h]; exact iteF q
theorem ifF' {c A B : Prop} [Decidable c] (h : ¬ c) (q : A) : if (!decide c) = true then A else B := by rw [decide_eq_false h]; exact iteT q
theorem ifS {c A B : Prop} [Decidable c] (h1 : c → A) (h2 : ¬ c → B) : if decide c = true then A else B := by
  by_cases h : c
  · exact ifT h (h1 h)
  · exact ifF h (h2 h)
theorem ifS' {c A B : Prop} [Decidable c] (h1 : c → B) (h2 : ¬ c → A) : if (!decide c) = true then A else B := by
  by_cases h : c
  · exact ifT' h (h1 h)
  · exact ifF' h (h2 h)
theorem ifB {b : Bool} {A B : Prop} (h1 : b = true → A) (h2 : b = false → B) : if b = true then A else B := by
  cases b with
  | true => exact iteT (h1 rfl)
  | false => exact iteF (h2 rfl)
theorem w_andP {b1 b2 : Bool} {Q : Bool → Hp → Prop} (hc : ∀ R : Bool → Hp → Prop, R b1 H → c σ H R) (hd : ∀ R : Bool → Hp → Prop, R b2 H → d σ H R) (q : Q (b1 && b2) H) : tAnd c d σ H Q := by
  refine hc _ ?_
  cases b1 with
  | true => exact iteT (hd _ q)
  | false => exact iteF q
theorem w_orP {b1 b2 : Bool} {Q : Bool → Hp → Prop} (hc : ∀ R : Bool → Hp → Prop, R b1 H → c σ H R) (hd : ∀ R : Bool → Hp → Prop, R b2 H → d σ H R) (q : Q (b1 || b2) H) : tOr c d σ H Q := by
  refine hc _ ?_
  cases b1 with
  | true => exact iteT q
  | false => exact iteF (hd _ q)
theorem dec_vint {i j : Int} : decide (V.int i = V.int j) = decide (i = j) := by
  by_cases h : i = j
  · subst h; simp
  · rw [decide_eq_false h, decide_eq_false (fun e => h (V.int.inj e))]
end
/-- only what stands at p may have changed -/
def Chg (p : Addr) (H H' : Hp) : Prop := ∀ b o, H b = some o → b ≠ p → H' b = some o
theorem Chg.refl {p : Addr} {H : Hp} : Chg p H H := fun _ _ h _ => h
theorem Chg.same {p : Addr} {H H' H1 : Hp} (a : Chg p H H') (b : Same H' H1) : Chg p H H1 := fun c o h n => b c o (a c o h n)
theorem Same.chg {p : Addr} {H H' : Hp} (a : Same H H') : Chg p H H' := fun b o h _ => a b o h
theorem Chg.trans {p : Addr} {H H' H1 : Hp} (a : Chg p H H') (b : Chg p H' H1) : Chg p H H1 := fun c o h n => b c o (a c o h n) n
theorem Chg.upd {p : Addr} {H H' : Hp} {o : HO} (a : Chg p H H') : Chg p H (upd H' p o) := fun c u h n => by rw [upd_ne n]; exact a c u h n
theorem same_upd {H H' : Hp} {p : Addr} {o : HO} (a : Same H H') (h : H' p = none) : Same H (upd H' p o) := a.trans (same_new h)
theorem same_updF {H H' : Hp} {p : Addr} {o : HO} (a : Same H H') (h : H p = none) : Same H (upd H' p o) := fun b u e => by
  rw [upd_ne (ne_of_none e h)]
  exact a b u e
theorem atI_ints {ns : List Int} {k : Int} (h0 : 0 ≤ k) (h : k < (ns.map V.int).length) : ∃ n, n ∈ ns ∧ atI (ns.map V.int) k = some (.int n) ∧ ns[k.toNat]? = some n := by
  rw [List.length_map] at h
  have hj : k.toNat < ns.length := by omega
  refine ⟨ns[k.toNat], List.getElem_mem hj, ?_, List.getElem?_eq_getElem hj⟩
  have e : ((k.toNat : Nat) : Int) = k := by omega
  have q : atI (ns.map V.int) ((k.toNat : Nat) : Int) = some (V.int ns[k.toNat]) := atI_nat (by rw [List.getElem?_map]; simp [hj])
  rw [e] at q
  exact q
theorem atI_mem {xs : List V} {k : Int} (h0 : 0 ≤ k) (h : k < xs.length) : ∃ v, v ∈ xs ∧ atI xs k = some v ∧ xs[k.toNat]? = some v := by
  have hj : k.toNat < xs.length := by omega
  refine ⟨xs[k.toNat], List.getElem_mem hj, ?_, List.getElem?_eq_getElem hj⟩
  have e : ((k.toNat : Nat) : Int) = k := by omega
  have q : atI xs ((k.toNat : Nat) : Int) = some xs[k.toNat] := atI_nat (by simp [hj])
  rw [e] at q
  exact q
/-! ### methods called in a try, by keywords -/
section
open PySem.Spec PyProof.Rows
variable {X : Cx} {CX : CXT} {k : Nat} {f C : Addr} {fd : FuncData} {ps ks : List Str} {sp : Sp} {m x : Str} {p pos apos : Pos} {e o : Expr} {es : List Expr} {kws : List Keyword} {ta : TE} {t tk : TA} {g : List Value → List Value → List Value} {gV : List V → List V → List V} {n : Nat}
def tMethSx (C : Addr) (m : Str) (sp : Sp) (E : L2.St → XK) (ta : TE) (t : TA) : TE := fun σ H Q => ta σ H fun x H1 => ∃ a dx fs, x = .ref a ∧ H1 a = some (.ins C dx fs) ∧ fs.lookup m = none ∧
  t σ H1 fun vs H2 => sp (x :: vs) H2 Q (E σ)
theorem pe_methSx {E : L2.St → XK} {pl : Sem Bool} (he : PE X o ta) (c : Cls X.K C) (hm : Meth X.K C m f) (F : FnOk X.prog X.w X.K X.mg X.base CX k f fd ps sp) (hr : Room k X.A) (hb : Binds X.K fd ps []) (hx : ∀ σ, PassesAt CX X σ (E σ)) (ha : PA X (e :: es) t)
    (hst : starEach (e :: es) X.env = (false, eval e X.env) :: starEach es X.env := by rfl) (hpl : (backTo pos (starEach es X.env)).any (·.1) = false := by rfl)
    (ht : eval (.Call (.Attribute o m apos) (e :: es) [] pos) X.env = (do
      let ov ← eval o X.env
      standAt apos.atName
      let (f, first) ← holding [ov] (getMethod ov m pl)
      callWith pos f first (backTo pos (starEach (e :: es) X.env)) (backToKw pos (keywordEach [] X.env))) := by rfl) :
    PE X (.Call (.Attribute o m apos) (e :: es) [] pos) (tMethSx C m sp E ta t) := by
  refine ⟨fun pins s σ H Q I h => ?_⟩
  refine PySem.W.methodCall_KW (pl := pl) (thn (he.run pins s σ H _ I h) fun u s1 ⟨x, H1, I1, rx, a, dx, fs, ex, ea, l, q⟩ => ?_) ht
  subst ex
  obtain rfl : u = Value.ref a := rx
  refine getmeth_ok I1 ea c hm l ?_
  refine PySem.W.callWith_K (first := [.ref a]) (h₀ := X.base) I.ok.mod.kin hm.kp (thn (ha.run pos pins s1 σ H1 _ I1 q) fun us s2 ⟨vs, H2, I2, r, q2⟩ => ⟨I2.kIn, ?_⟩) hst hpl
  exact run_fnS (us := .ref a :: us) (vs := .ref a :: vs) F hr hb (hx σ) I2 (.cons rfl r) q2
def tMethN (C : Addr) (m : Str) (j l : Nat) (sp : Sp) (gV : List V → List V → List V) (E : XK) (ta : TE) (t tk : TA) : TE := fun σ H Q => ta σ H fun x H1 => ∃ a dx fs, x = .ref a ∧ H1 a = some (.ins C dx fs) ∧ fs.lookup m = none ∧
  t σ H1 fun vs H2 => tk σ H2 fun zs H3 => vs.length = j ∧ zs.length = l ∧ sp (gV (x :: vs) zs) H3 Q E
theorem pe_methN0 {E : XK} {pl : Sem Bool} (he : PE X o ta) (c : Cls X.K C) (hm : Meth X.K C m f) (F : FnOk X.prog X.w X.K X.mg X.base CX k f fd ps sp) (hr : Room k X.A) (hb : KBn X.K fd ps 1 ks g gV) (hx : Passes CX X E) (hkw : PK X kws tk)
    (hall : (backToKw pos (keywordEach kws X.env)).all (·.1.isSome) = true := by rfl) (hks : (backToKw pos (keywordEach kws X.env)).filterMap (·.1) = ks := by rfl)
    (hpl : ((backTo pos (starEach [] X.env)).any (·.1) || (backToKw pos (keywordEach kws X.env)).any (·.1.isNone)) = false := by rfl)
    (ht : eval (.Call (.Attribute o m apos) [] kws pos) X.env = (do
      let ov ← eval o X.env
      standAt apos.atName
      let (f, first) ← holding [ov] (getMethod ov m pl)
      callWith pos f first (backTo pos (starEach [] X.env)) (backToKw pos (keywordEach kws X.env))) := by rfl) :
    PE X (.Call (.Attribute o m apos) [] kws pos) (tMethN C m 0 ks.length sp gV E ta tNil tk) := by
  refine ⟨fun pins s σ H Q I h => ?_⟩
  refine PySem.W.methodCall_KW (pl := pl) (thn (he.run pins s σ H _ I h) fun u s1 ⟨x, H1, I1, rx, a, dx, fs, ex, ea, l, q⟩ => ?_) ht
  subst ex
  obtain rfl : u = Value.ref a := rx
  refine getmeth_ok I1 ea c hm l ?_
  refine PySem.W.callWith_KW0 (first := [.ref a]) (h₀ := X.base) I.ok.mod.kin hm.kp hall ?_ hpl
  refine thn (hkw.run pos pins s1 σ H1 _ I1 q) fun ws s2 ⟨zs, H2, I2, rz, l1, l2, q2⟩ => ⟨I2.kIn, ?_⟩
  rw [hks]
  exact run_fnN (us := [.ref a]) (vs := [.ref a]) F hr hb hx I2 (.cons rfl .nil) rz rfl l2 q2
theorem pe_methN {E : XK} {pl : Sem Bool} (he : PE X o ta) (c : Cls X.K C) (hm : Meth X.K C m f) (F : FnOk X.prog X.w X.K X.mg X.base CX k f fd ps sp) (hr : Room k X.A) (hb : KBn X.K fd ps (n + 1) ks g gV) (hx : Passes CX X E) (ha : PA X (e :: es) t) (hkw : PK X kws tk)
    (hall : (backToKw pos (keywordEach kws X.env)).all (·.1.isSome) = true := by rfl) (hks : (backToKw pos (keywordEach kws X.env)).filterMap (·.1) = ks := by rfl)
    (hst : starEach (e :: es) X.env = (false, eval e X.env) :: starEach es X.env := by rfl)
    (hpl : ((backTo pos (starEach (e :: es) X.env)).any (·.1) || (backToKw pos (keywordEach kws X.env)).any (·.1.isNone)) = false := by rfl)
    (ht : eval (.Call (.Attribute o m apos) (e :: es) kws pos) X.env = (do
      let ov ← eval o X.env
      standAt apos.atName
      let (f, first) ← holding [ov] (getMethod ov m pl)
      callWith pos f first (backTo pos (starEach (e :: es) X.env)) (backToKw pos (keywordEach kws X.env))) := by rfl) :
    PE X (.Call (.Attribute o m apos) (e :: es) kws pos) (tMethN C m n ks.length sp gV E ta t tk) := by
  refine ⟨fun pins s σ H Q I h => ?_⟩
  refine PySem.W.methodCall_KW (pl := pl) (thn (he.run pins s σ H _ I h) fun u s1 ⟨x, H1, I1, rx, a, dx, fs, ex, ea, l, q⟩ => ?_) ht
  subst ex
  obtain rfl : u = Value.ref a := rx
  refine getmeth_ok I1 ea c hm l ?_
  refine PySem.W.callWith_KW (first := [.ref a]) (h₀ := X.base) I.ok.mod.kin hm.kp hall (thn (ha.run pos pins s1 σ H1 _ I1 q) fun us s2 ⟨vs, H2, I2, r, q2⟩ => ?_) hpl hst
  refine thn (hkw.run pos pins s2 σ H2 _ I2 q2) fun ws s3 ⟨zs, H3, I3, rz, l1, l2, q3⟩ => ⟨I3.kIn, ?_⟩
  rw [hks]
  exact run_fnN (us := .ref a :: us) (vs := .ref a :: vs) F hr hb hx I3 (.cons rfl r) rz (by rw [List.length_cons, l1]) l2 q3
/-- f(k = v, ..) -/
theorem pe_callN0 {E : XK} (F : FnOk X.prog X.w X.K X.mg X.base CX k f fd ps sp) (hr : Room k X.A) (hg : Gl X x) (hm : X.mg x = some (.ref f)) (hk : PySem.W.keepIn X.K (.ref f) = true) (hb : KBn X.K fd ps 0 ks g gV) (hx : Passes CX X E) (hkw : PK X kws tk)
    (hall : (backToKw pos (keywordEach kws X.env)).all (·.1.isSome) = true := by rfl) (hks : (backToKw pos (keywordEach kws X.env)).filterMap (·.1) = ks := by rfl)
    (hdb : (x == ("__debug__" : Str)) = false := by decide)
    (hpl : ((backTo pos (starEach [] X.env)).any (·.1) || (backToKw pos (keywordEach kws X.env)).any (·.1.isNone)) = false := by rfl) :
    PE X (.Call (.Name x p) [] kws pos) (tCallN 0 ks.length sp gV E tNil tk) := by
  refine ⟨fun pins s σ H Q I h => ?_⟩
  refine wpAny_Call_Name_kw (ld_glob I hg hm ?_ hdb)
  refine PySem.W.callWith_KW0 (h₀ := X.base) I.ok.mod.kin hk hall ?_ hpl
  refine thn (hkw.run pos pins s σ H _ I h) fun ws s2 ⟨zs, H2, I2, rz, l1, l2, q2⟩ => ⟨I2.kIn, ?_⟩
  rw [hks]
  exact run_fnN (us := []) (vs := []) F hr hb hx I2 .nil rz rfl l2 q2
end
section
variable {K : PySem.W.Frag} {σ : St} {H : Hp} {Q : VK} {ta : TE} {t tk : TA} {v : V}
theorem w_methSx0 {C : Addr} {m : Str} {sp : Sp} {E : St → XK} (q : ta σ H fun x H1 => ∃ a dx fs, x = .ref a ∧ H1 a = some (.ins C dx fs) ∧ fs.lookup m = none ∧ t σ H1 fun vs H2 => sp (x :: vs) H2 Q (E σ)) : tMethSx C m sp E ta t σ H Q := q
theorem w_methN0 {C : Addr} {m : Str} {j l : Nat} {sp : Sp} {gV : List V → List V → List V} {E : XK} (q : ta σ H fun x H1 => ∃ a dx fs, x = .ref a ∧ H1 a = some (.ins C dx fs) ∧ fs.lookup m = none ∧ t σ H1 fun vs H2 => tk σ H2 fun zs H3 => vs.length = j ∧ zs.length = l ∧ sp (gV (x :: vs) zs) H3 Q E) : tMethN C m j l sp gV E ta t tk σ H Q := q
theorem w_callN {j l : Nat} {sp : Sp} {gV : List V → List V → List V} {E : XK} (q : t σ H fun vs H1 => tk σ H1 fun zs H2 => vs.length = j ∧ zs.length = l ∧ sp (gV vs zs) H2 Q E) : tCallN j l sp gV E t tk σ H Q := q
theorem w_callS {sp : Sp} {E : St → XK} (q : t σ H fun vs H1 => sp vs H1 Q (E σ)) : tCallS sp E t σ H Q := q
theorem w_rfl {α : Type} {x : α} {R : Prop} (q : R) : x = x ∧ R := ⟨rfl, q⟩
theorem w_ea {α : Type} {x y : α} {R : Prop} (h : x = y) (q : R) : x = y ∧ R := ⟨h, q⟩
theorem w_yes {Q : Bool → Hp → Prop} (q : Q true H) : tYes σ H Q := q
end
theorem iteNT {A B : Prop} (h : B) : if (!true) = true then A else B := h
theorem iteNF {A B : Prop} (h : A) : if (!false) = true then A else B := h
/-! ### comprehensions without tests: each item gives a known value -/
section
variable {K : PySem.W.Frag} {σ : L2.St} {H : Hp} {Q : VK} {g : TG} {te tl : TE} {l : Addr} {xs ys : List V} {vs : List Nat}
theorem w_lc0L (q : tl σ H fun x H1 => ∃ a, x = .ref a ∧ (∃ xs, SqL K H1 a xs) ∧ ∀ D, H1 D = none → ∃ W : Nat → Nat → Hp → Prop, (∃ m, W 0 m (upd H1 D (.lst []))) ∧ ∀ i m H, W i m H →
      ((Itl K a).stop i H ∧ Q (.ref D) H) ∨ ((Itl K a).go i H ∧ ∃ Nx : Hp → Prop, (∀ H', Nx H' → ∃ m', m' < m ∧ W (i + 1) m' H') ∧ ∀ x H', (Itl K a).yld i H x H' → g x (wipe σ vs) H' fun σ2 H2 => wipe σ2 vs = wipe σ vs ∧ tYes σ2 H2 fun b H3 =>
        if b = true then te σ2 H3 fun y H4 => ∃ acc, H4 D = some (.lst acc) ∧ acc.length < sizeLine ∧ Nx (upd H4 D (.lst (acc ++ [y]))) else Nx H3)) : tLc (iList K tl) g tYes te vs σ H Q := q
theorem w_lc0T (q : tl σ H fun x H1 => ∃ a, x = .ref a ∧ (∃ xs, SqT K H1 a xs) ∧ ∀ D, H1 D = none → ∃ W : Nat → Nat → Hp → Prop, (∃ m, W 0 m (upd H1 D (.lst []))) ∧ ∀ i m H, W i m H →
      ((Itt K a).stop i H ∧ Q (.ref D) H) ∨ ((Itt K a).go i H ∧ ∃ Nx : Hp → Prop, (∀ H', Nx H' → ∃ m', m' < m ∧ W (i + 1) m' H') ∧ ∀ x H', (Itt K a).yld i H x H' → g x (wipe σ vs) H' fun σ2 H2 => wipe σ2 vs = wipe σ vs ∧ tYes σ2 H2 fun b H3 =>
        if b = true then te σ2 H3 fun y H4 => ∃ acc, H4 D = some (.lst acc) ∧ acc.length < sizeLine ∧ Nx (upd H4 D (.lst (acc ++ [y]))) else Nx H3)) : tLc (iTup K tl) g tYes te vs σ H Q := q
theorem lc_inv {f : Nat → V} {D : Addr} {H' : Hp} {i : Nat} (nD : H D = none) (s : Same H H') (hD : H' D = some (.lst ((List.range i).map f))) (v : V) (hv : v = f i) :
    Same H (upd H' D (.lst (((List.range i).map f) ++ [v]))) ∧ (upd H' D (.lst (((List.range i).map f) ++ [v]))) D = some (.lst ((List.range (i + 1)).map f)) := by
  refine ⟨same_updF s nD, ?_⟩
  rw [upd_same, List.range_succ, List.map_append, hv]
  rfl
/-- the i-th item gives f i; nothing that stood is changed -/
theorem w_lcL (f : Nat → V) (h : SqL K H l xs) (hz : xs.length ≤ 100000)
    (step : ∀ (i : Nat) (x : V) (H' : Hp) (R : VK) (S : Hp → Prop), xs[i]? = some x → Same H H' → (∀ H4, Same H' H4 → R (f i) H4) → g x (wipe σ vs) H' fun σ2 H2 => wipe σ2 vs = wipe σ vs ∧ tYes σ2 H2 fun b H3 => if b = true then te σ2 H3 R else S H3)
    (q : ∀ D H', Same H H' → H D = none → H' D = some (.lst ((List.range xs.length).map f)) → Q (.ref D) H') : ∃ a, V.ref l = .ref a ∧ (∃ xs, SqL K H a xs) ∧ ∀ D, H D = none → ∃ W : Nat → Nat → Hp → Prop, (∃ m, W 0 m (upd H D (.lst []))) ∧ ∀ i m H, W i m H →
      ((Itl K a).stop i H ∧ Q (.ref D) H) ∨ ((Itl K a).go i H ∧ ∃ Nx : Hp → Prop, (∀ H', Nx H' → ∃ m', m' < m ∧ W (i + 1) m' H') ∧ ∀ x H', (Itl K a).yld i H x H' → g x (wipe σ vs) H' fun σ2 H2 => wipe σ2 vs = wipe σ vs ∧ tYes σ2 H2 fun b H3 =>
        if b = true then te σ2 H3 fun y H4 => ∃ acc, H4 D = some (.lst acc) ∧ acc.length < sizeLine ∧ Nx (upd H4 D (.lst (acc ++ [y]))) else Nx H3) := by
  refine ⟨l, rfl, ⟨xs, h⟩, fun D nD => ?_⟩
  refine lc_list (K := K) (a := l) (xs := xs) (fun i H' => i ≤ xs.length ∧ Same H H' ∧ H' D = some (.lst ((List.range i).map f))) ⟨Nat.zero_le _, same_new nD, upd_same⟩ (fun i H' _ p => p.2.1.seq h) (fun i x H' hx p => ?_) (fun H' p => q D H' p.2.1 nD p.2.2)
  have hi : i < xs.length := (List.getElem?_eq_some_iff.mp hx).1
  refine step i x H' _ _ hx p.2.1 fun H4 s4 => ?_
  have hD4 := s4 _ _ p.2.2
  refine ⟨_, hD4, ?_, hi, lc_inv nD (p.2.1.trans s4) hD4 _ rfl⟩
  rw [List.length_map, List.length_range]
  exact Nat.lt_of_lt_of_le (Nat.lt_of_lt_of_le hi hz) (by decide)
theorem w_lcT (f : Nat → V) (h : SqT K H l xs) (hz : xs.length ≤ 100000) (hs : ∀ H', Same H H' → SqT K H' l xs)
    (step : ∀ (i : Nat) (x : V) (H' : Hp) (R : VK) (S : Hp → Prop), xs[i]? = some x → Same H H' → (∀ H4, Same H' H4 → R (f i) H4) → g x (wipe σ vs) H' fun σ2 H2 => wipe σ2 vs = wipe σ vs ∧ tYes σ2 H2 fun b H3 => if b = true then te σ2 H3 R else S H3)
    (q : ∀ D H', Same H H' → H D = none → H' D = some (.lst ((List.range xs.length).map f)) → Q (.ref D) H') : ∃ a, V.ref l = .ref a ∧ (∃ xs, SqT K H a xs) ∧ ∀ D, H D = none → ∃ W : Nat → Nat → Hp → Prop, (∃ m, W 0 m (upd H D (.lst []))) ∧ ∀ i m H, W i m H →
      ((Itt K a).stop i H ∧ Q (.ref D) H) ∨ ((Itt K a).go i H ∧ ∃ Nx : Hp → Prop, (∀ H', Nx H' → ∃ m', m' < m ∧ W (i + 1) m' H') ∧ ∀ x H', (Itt K a).yld i H x H' → g x (wipe σ vs) H' fun σ2 H2 => wipe σ2 vs = wipe σ vs ∧ tYes σ2 H2 fun b H3 =>
        if b = true then te σ2 H3 fun y H4 => ∃ acc, H4 D = some (.lst acc) ∧ acc.length < sizeLine ∧ Nx (upd H4 D (.lst (acc ++ [y]))) else Nx H3) := by
  refine ⟨l, rfl, ⟨xs, h⟩, fun D nD => ?_⟩
  refine lc_tup (K := K) (a := l) (xs := xs) (fun i H' => i ≤ xs.length ∧ Same H H' ∧ H' D = some (.lst ((List.range i).map f))) ⟨Nat.zero_le _, same_new nD, upd_same⟩ (fun i H' _ p => hs _ p.2.1) (fun i x H' hx p => ?_) (fun H' p => q D H' p.2.1 nD p.2.2)
  have hi : i < xs.length := (List.getElem?_eq_some_iff.mp hx).1
  refine step i x H' _ _ hx p.2.1 fun H4 s4 => ?_
  have hD4 := s4 _ _ p.2.2
  refine ⟨_, hD4, ?_, hi, lc_inv nD (p.2.1.trans s4) hD4 _ rfl⟩
  rw [List.length_map, List.length_range]
  exact Nat.lt_of_lt_of_le (Nat.lt_of_lt_of_le hi hz) (by decide)
theorem lc_L (f : Nat → V) (htl : ∀ R : VK, R (.ref l) H → tl σ H R) (h : SqL K H l xs) (hz : xs.length ≤ 100000)
    (step : ∀ (i : Nat) (x : V) (H' : Hp) (R : VK) (S : Hp → Prop), xs[i]? = some x → Same H H' → (∀ H4, Same H' H4 → R (f i) H4) → g x (wipe σ vs) H' fun σ2 H2 => wipe σ2 vs = wipe σ vs ∧ tYes σ2 H2 fun b H3 => if b = true then te σ2 H3 R else S H3)
    (q : ∀ D H', Same H H' → H D = none → H' D = some (.lst ((List.range xs.length).map f)) → Q (.ref D) H') : tLc (iList K tl) g tYes te vs σ H Q := w_lc0L (htl _ (w_lcL f h hz step q))
theorem lc_T (f : Nat → V) (htl : ∀ R : VK, R (.ref l) H → tl σ H R) (h : SqT K H l xs) (hz : xs.length ≤ 100000) (hs : ∀ H', Same H H' → SqT K H' l xs)
    (step : ∀ (i : Nat) (x : V) (H' : Hp) (R : VK) (S : Hp → Prop), xs[i]? = some x → Same H H' → (∀ H4, Same H' H4 → R (f i) H4) → g x (wipe σ vs) H' fun σ2 H2 => wipe σ2 vs = wipe σ vs ∧ tYes σ2 H2 fun b H3 => if b = true then te σ2 H3 R else S H3)
    (q : ∀ D H', Same H H' → H D = none → H' D = some (.lst ((List.range xs.length).map f)) → Q (.ref D) H') : tLc (iTup K tl) g tYes te vs σ H Q := w_lc0T (htl _ (w_lcT f h hz hs step q))
theorem same_seqT {H H' : Hp} {a : Addr} {xs : List V} (e : Same H H') (h : SqT K H a xs) : SqT K H' a xs := by
  rcases h with (h | ⟨o, h⟩) | h
  · exact .inl (.inl (e _ _ h))
  · exact .inl (.inr ⟨o, e _ _ h⟩)
  · exact .inr h
end
theorem w_allTrue {K : PySem.W.Frag} {H : Hp} {Q : VK} {D : Addr} {n : Nat} (h : H D = some (.lst ((List.range n).map fun _ => V.bl true))) (q : Q (.bl true) H) : rAll K [.ref D] H Q := by
  refine ⟨D, (List.range n).map fun _ => true, rfl, SqL.of (by rw [List.map_map]; exact h), ?_⟩
  have e : ((List.range n).map fun _ => true).all id = true := by simp
  rw [e]
  exact q
/-! ### refusals -/
def spCore (K : PySem.W.Frag) : Sp := fun vs H Q _ => ∃ (x C : Addr) (v : V), vs = [.ref x, v] ∧ OexC K C ∧ PySem.W.findIn K (.ref C) "value" = some none ∧ H x = some (exo x C none) ∧
  ∀ dx, H dx = none → dx ≠ x → Q .non (upd (upd H dx (exd dx [("value", v)])) x (exo x C (some dx)))
theorem w_mko0 {C : Addr} {sp : Sp} {dvs : List V} {ta : TA} {σ : St} {H : Hp} {Q : XK} (q : ta σ H fun vs H1 => vs.length ≤ 1000 ∧ ∀ a, H1 a = none → sp (.ref a :: (vs ++ dvs)) (upd H1 a (exo a C none))
  (fun v H2 => v = .non ∧ ∃ (d : Addr) (fs : List (Str × V)), H2 a = some (exo a C (some d)) ∧ H2 d = some (exd d fs) ∧ H1 d = none ∧ Q (.ref C) (some d) (upd (del H2 a) d (.xd fs))) (fun _ _ _ => False)) : tMkO C sp dvs ta σ H Q := q
theorem w_core {K : PySem.W.Frag} {C : Addr} {v : V} {H : Hp} {Q : XK} (hC : OexC K C) (hn : PySem.W.findIn K (.ref C) "value" = some none)
    (q : ∀ d H', Same H H' → H d = none → H' d = some (.xd [("value", v)]) → Q (.ref C) (some d) H') :
    [v].length ≤ 1000 ∧ ∀ a, H a = none → spCore K (.ref a :: ([v] ++ [])) (upd H a (exo a C none))
      (fun v H2 => v = .non ∧ ∃ (d : Addr) (fs : List (Str × V)), H2 a = some (exo a C (some d)) ∧ H2 d = some (exd d fs) ∧ H d = none ∧ Q (.ref C) (some d) (upd (del H2 a) d (.xd fs))) (fun _ _ _ => False) := by
  refine ⟨by show 1 ≤ 1000; decide, fun x nx => ⟨x, C, v, rfl, hC, hn, upd_same, fun dx ndx hne => ⟨rfl, dx, _, upd_same, (upd_ne hne).trans upd_same, ?_, q dx _ ?_ ?_ upd_same⟩⟩⟩
  · rw [upd_ne hne] at ndx
    exact ndx
  · intro b o e
    have hb : b ≠ x := ne_of_none e nx
    have hd : b ≠ dx := by
      intro z
      rw [z] at e
      rw [upd_ne hne, e] at ndx
      cases ndx
    rw [upd_ne hd, del_ne hb, upd_ne hb, upd_ne hd, upd_ne hb]
    exact e
  · rw [upd_ne hne] at ndx
    exact ndx
theorem map_get {ns : List Int} {i : Nat} {x : V} (h : (ns.map V.int)[i]? = some x) : ∃ n, n ∈ ns ∧ x = .int n := by
  rw [List.getElem?_map] at h
  cases e : ns[i]? with
  | none => rw [e] at h; cases h
  | some n =>
    rw [e] at h
    exact ⟨n, List.mem_of_getElem? e, (Option.some.inj h).symm⟩
/-! ### loops -/
section
variable {K : PySem.W.Frag} {σ : L2.St} {H : Hp} {g : TG} {tb : TS} {nx bk ct : L2.St → Hp → Prop} {rt : VK} {ta : TA} {tl : TE}
def kR1 (g : TG) (tb : TS) (D : Ends) (σ : L2.St) (vs : List V) (H : Hp) : Prop := ∃ j : Int, vs = [.int j] ∧ -(2 ^ 62) ≤ j ∧ j < 2 ^ 62 ∧ ∃ W : Nat → Nat → L2.St → Hp → Prop, (∃ m, W 0 m σ H) ∧ ∀ i m σ H, W i m σ H →
  ((Itr 0 j.toNat).stop i H ∧ D.nx σ H) ∨ ((Itr 0 j.toNat).go i H ∧ ∃ N : L2.St → Hp → Prop, (∀ σ' H', N σ' H' → ∃ m', m' < m ∧ W (i + 1) m' σ' H') ∧ ∀ x H', (Itr 0 j.toNat).yld i H x H' → g x σ H' fun σ2 H2 => tb { D with nx := N, ct := N, bk := D.nx } σ2 H2)
theorem w_forR1 (q : ta σ H fun vs H1 => kR1 g tb ⟨nx, rt, bk, ct⟩ σ vs H1) : tFor (iRng1 ta) g tb ⟨nx, rt, bk, ct⟩ σ H := q
theorem w_range1 {j : Int} (Pv : Nat → L2.St → Hp → Prop) (hj : -100000000 ≤ j ∧ j < 100000000) (h0 : Pv 0 σ H)
    (hs : ∀ (i : Nat) σ' H', (i : Int) < j → Pv i σ' H' → g (.int i) σ' H' fun σ2 H2 => tb ⟨Pv (i + 1), rt, nx, Pv (i + 1)⟩ σ2 H2) (hd : ∀ σ' H', Pv j.toNat σ' H' → nx σ' H') : kR1 g tb ⟨nx, rt, bk, ct⟩ σ [.int j] H := by
  refine ⟨j, rfl, by omega, by omega, for_range (lo := 0) (n := j.toNat) (D := ⟨nx, rt, bk, ct⟩) Pv h0 (fun i σ' H' hi p => ?_) hd⟩
  have e : (0 : Int) + (i : Int) = i := by omega
  rw [e]
  exact hs i σ' H' (by omega) p
def kFL (K : PySem.W.Frag) (g : TG) (tb : TS) (D : Ends) (σ : L2.St) (x : V) (H : Hp) : Prop := ∃ a, x = .ref a ∧ (∃ xs, SqL K H a xs) ∧ ∃ W : Nat → Nat → L2.St → Hp → Prop, (∃ m, W 0 m σ H) ∧ ∀ i m σ H, W i m σ H →
  ((Itl K a).stop i H ∧ D.nx σ H) ∨ ((Itl K a).go i H ∧ ∃ N : L2.St → Hp → Prop, (∀ σ' H', N σ' H' → ∃ m', m' < m ∧ W (i + 1) m' σ' H') ∧ ∀ x H', (Itl K a).yld i H x H' → g x σ H' fun σ2 H2 => tb { D with nx := N, ct := N, bk := D.nx } σ2 H2)
theorem w_forL (q : tl σ H fun x H1 => kFL K g tb ⟨nx, rt, bk, ct⟩ σ x H1) : tFor (iList K tl) g tb ⟨nx, rt, bk, ct⟩ σ H := q
theorem w_list {a : Addr} {xs : List V} (Pv : Nat → L2.St → Hp → Prop) (h : SqL K H a xs) (h0 : Pv 0 σ H) (hl : ∀ i σ' H', i ≤ xs.length → Pv i σ' H' → SqL K H' a xs)
    (hs : ∀ (i : Nat) x σ' H', xs[i]? = some x → Pv i σ' H' → g x σ' H' fun σ2 H2 => tb ⟨Pv (i + 1), rt, nx, Pv (i + 1)⟩ σ2 H2) (hd : ∀ σ' H', Pv xs.length σ' H' → nx σ' H') : kFL K g tb ⟨nx, rt, bk, ct⟩ σ (.ref a) H :=
  ⟨a, rfl, ⟨xs, h⟩, for_list (D := ⟨nx, rt, bk, ct⟩) Pv h0 hl hs hd⟩
def kFT (K : PySem.W.Frag) (g : TG) (tb : TS) (D : Ends) (σ : L2.St) (x : V) (H : Hp) : Prop := ∃ a, x = .ref a ∧ (∃ xs, SqT K H a xs) ∧ ∃ W : Nat → Nat → L2.St → Hp → Prop, (∃ m, W 0 m σ H) ∧ ∀ i m σ H, W i m σ H →
  ((Itt K a).stop i H ∧ D.nx σ H) ∨ ((Itt K a).go i H ∧ ∃ N : L2.St → Hp → Prop, (∀ σ' H', N σ' H' → ∃ m', m' < m ∧ W (i + 1) m' σ' H') ∧ ∀ x H', (Itt K a).yld i H x H' → g x σ H' fun σ2 H2 => tb { D with nx := N, ct := N, bk := D.nx } σ2 H2)
theorem w_forT (q : tl σ H fun x H1 => kFT K g tb ⟨nx, rt, bk, ct⟩ σ x H1) : tFor (iTup K tl) g tb ⟨nx, rt, bk, ct⟩ σ H := q
theorem w_tupl {a : Addr} {xs : List V} (Pv : Nat → L2.St → Hp → Prop) (h : SqT K H a xs) (h0 : Pv 0 σ H) (hl : ∀ i σ' H', i ≤ xs.length → Pv i σ' H' → SqT K H' a xs)
    (hs : ∀ (i : Nat) x σ' H', xs[i]? = some x → Pv i σ' H' → g x σ' H' fun σ2 H2 => tb ⟨Pv (i + 1), rt, nx, Pv (i + 1)⟩ σ2 H2) (hd : ∀ σ' H', Pv xs.length σ' H' → nx σ' H') : kFT K g tb ⟨nx, rt, bk, ct⟩ σ (.ref a) H :=
  ⟨a, rfl, ⟨xs, h⟩, for_tup (D := ⟨nx, rt, bk, ct⟩) Pv h0 hl hs hd⟩
/-- a comprehension by an invariant over its turns -/
theorem lcI_L {Q : VK} {te : TE} {l : Addr} {xs : List V} {vs : List Nat} (Pv : Addr → Nat → Hp → Prop) (htl : ∀ R : VK, R (.ref l) H → tl σ H R) (h : SqL K H l xs) (h0 : ∀ D, H D = none → Pv D 0 (upd H D (.lst []))) (hl : ∀ D i H', i ≤ xs.length → Pv D i H' → SqL K H' l xs)
    (step : ∀ D (i : Nat) (x : V) (H' : Hp) (R : VK) (S : Hp → Prop), H D = none → xs[i]? = some x → Pv D i H' → (∀ y H4 acc, H4 D = some (.lst acc) → acc.length ≤ 100000 → Pv D (i + 1) (upd H4 D (.lst (acc ++ [y]))) → R y H4) → g x (wipe σ vs) H' fun σ2 H2 => wipe σ2 vs = wipe σ vs ∧ tYes σ2 H2 fun b H3 => if b = true then te σ2 H3 R else S H3)
    (q : ∀ D H', H D = none → Pv D xs.length H' → Q (.ref D) H') : tLc (iList K tl) g tYes te vs σ H Q := by
  refine w_lc0L (htl _ ⟨l, rfl, ⟨xs, h⟩, fun D nD => ?_⟩)
  refine lc_list (K := K) (a := l) (xs := xs) (fun i H' => Pv D i H') (h0 D nD) (fun i H' hi p => hl D i H' hi p) (fun i x H' hx p => ?_) (fun H' p => q D H' nD p)
  exact step D i x H' _ _ nD hx p fun y H4 acc e z p4 => ⟨acc, e, Nat.lt_of_le_of_lt z (by decide), p4⟩
end
section
variable {K : PySem.W.Frag} {σ : L2.St} {H H' G : Hp} {Q : VK} {to : TE} {t : TA} {p q x : Addr}
theorem w_bm {T : String} {r : V → List V → Hp → VK → Prop} (h : to σ H fun x H1 => tyV K T x H1 ∧ t σ H1 fun xs H2 => r x xs H2 Q) : tBM K T r to t σ H Q := h
theorem w_bm0 {T : String} {r : V → List V → Hp → VK → Prop} (h : to σ H fun x H1 => tyV K T x H1 ∧ r x [] H1 Q) : tBM0 K T r to σ H Q := h
theorem w_tyL {a : Addr} {xs : List V} {R : Prop} (h : SqL K H a xs) (q : R) : tyV K "list" (.ref a) H ∧ R := ⟨.inl ⟨rfl, xs, h⟩, q⟩
theorem w_app {l : Addr} {xs : List V} {y : V} (h : H l = some (.lst xs)) (hz : xs.length ≤ 100000) (q : Q .non (upd H l (.lst (xs ++ [y])))) : rAppend (.ref l) [y] H Q := ⟨l, xs, y, rfl, rfl, h, Nat.lt_of_le_of_lt hz (by decide), q⟩
theorem w_cat {l b : Addr} {xs zs : List V} (h1 : H l = some (.lst xs)) (h2 : H b = some (.lst zs)) (hz : xs.length + zs.length ≤ 100000) (q : ∀ p, H p = none → Q (.ref p) (upd H p (.lst (xs ++ zs)))) : rCat (.ref l) (.ref b) H Q := ⟨l, b, xs, zs, rfl, rfl, h1, h2, Nat.le_trans hz (by decide), q⟩
theorem ixN_of {n : Nat} {d : Int} (h0 : 0 ≤ d) (h1 : d < n) : ixN n d = some d.toNat := by
  unfold ixN
  rw [if_pos h0, if_pos h1]
theorem nodup_ne {α : Type} {l : List α} (nd : l.Nodup) {i j : Nat} {a b : α} (hi : l[i]? = some a) (hj : l[j]? = some b) (h : i ≠ j) : a ≠ b := by
  obtain ⟨h1, rfl⟩ := List.getElem?_eq_some_iff.mp hi
  obtain ⟨h2, rfl⟩ := List.getElem?_eq_some_iff.mp hj
  have z := List.pairwise_iff_getElem.mp nd
  rcases Nat.lt_or_gt_of_ne h with q | q
  · exact z i j h1 h2 q
  · exact (z j i h2 h1 q).symm
/-- G: what is never changed; it stays through a change at p, if p is none of it -/
theorem sub_chg (s : Same G H) (n : G p = none) (c : Chg p H H') : Same G H' := fun b o e => c b o (s b o e) (ne_of_none e n)
theorem sub_upd {o : HO} (s : Same G H) (n : G p = none) : Same G (upd H p o) := fun b u e => by
  rw [upd_ne (ne_of_none e n)]
  exact s b u e
/-- G grows by what stands in H -/
theorem sub_grow {o : HO} (s : Same G H) (h : H p = some o) : Same (upd G p o) H := fun b u e => by
  by_cases z : b = p
  · subst z
    rw [upd_same] at e
    rw [← e]
    exact h
  · rw [upd_ne z] at e
    exact s b u e
theorem same_grow {o : HO} (n : G p = none) : Same G (upd G p o) := same_new n
theorem none_upd {o : HO} (h : G q = none) (n : q ≠ p) : upd G p o q = none := by rw [upd_ne n]; exact h
/-- G: H without the places of bs -/
def cutH (H : Hp) (bs : List Addr) : Hp := fun b => if b ∈ bs then none else H b
theorem cut_none {bs : List Addr} (h : p ∈ bs) : cutH H bs p = none := if_pos h
theorem cut_some {bs : List Addr} (h : p ∉ bs) : cutH H bs p = H p := if_neg h
theorem cut_same {bs : List Addr} : Same (cutH H bs) H := fun b o e => by
  by_cases h : b ∈ bs
  · rw [cut_none h] at e; cases e
  · rw [cut_some h] at e; exact e
end
/-! ### refusals told -/
theorem w_only {K : PySem.W.Frag} {c : Value} {ts : Addr → Value → Option Addr → TS} {Wout : WX} {D : Ends} {σ : L2.St} {H : Hp} {cls : Value} {d : Option Addr} (h : PySem.W.exmOne K cls c = some true) (q : ∀ a, H a = none → ts a cls d D σ H) : wOnly K c ts Wout D cls d σ H :=
  ⟨true, h, fun _ => q, fun z => by cases z⟩
/-! ### lists of pairs of ints, compared -/
def pairD (q : Int × Int) : PyData := .tuple [.int q.1, .int q.2]
theorem pairs_lay : ∀ ps : List (Int × Int), PyData.canLayAll0 (ps.map pairD) = true
  | [] => rfl
  | q :: ps => by
    rw [List.map_cons]
    simp only [PyData.canLayAll0, pairs_lay ps, pairD, PyData.canLay0, Bool.and_self]
theorem pairs_depth : ∀ ps : List (Int × Int), PyData.depthAll (ps.map pairD) ≤ 3
  | [] => by simp [PyData.depthAll]
  | q :: ps => by
    have h := pairs_depth ps
    rw [List.map_cons]
    simp only [PyData.depthAll, pairD, PyData.depth] at h ⊢
    omega
theorem pairs_shaped (ps : List (Int × Int)) : SeqAt.shaped (.list (ps.map pairD)) = true := by
  unfold SeqAt.shaped
  have h := pairs_depth ps
  rw [Bool.and_eq_true]
  refine ⟨by rw [PyData.canLay0]; exact pairs_lay ps, decide_eq_true ?_⟩
  simp only [PyData.depth]
  omega
theorem pairs_eqv (ps : List (Int × Int)) : PyData.eqv (.list (ps.map pairD)) (.list (ps.map pairD)) = true := SeqAt.eqv_refl _ (by rw [PyData.canLay0]; exact pairs_lay ps)
theorem pairs_dp {K : PySem.W.Frag} {H : Hp} : ∀ {rs : List Addr} {ps : List (Int × Int)}, rs.length = ps.length → (∀ (i : Nat) (r : Addr) (m f : Int), rs[i]? = some r → ps[i]? = some (m, f) → H r = some (.tup [.int m, .int f])) → DpAll K H (rs.map V.ref) (ps.map pairD)
  | [], [], _, _ => .nil
  | [], _ :: _, h, _ => by cases h
  | _ :: _, [], h, _ => by cases h
  | r :: rs, (m, f) :: ps, h, k => by
    rw [List.map_cons, List.map_cons]
    exact .cons (.tup (SqT.of (k 0 r m f rfl rfl)) (.cons (.int m) (.cons (.int f) .nil))) (pairs_dp (Nat.succ.inj h) fun i r m f a b => k (i + 1) r m f a b)
theorem w_neD {K : PySem.W.Frag} {H : Hp} {Q : VK} {x y : V} (d : PyData) (h1 : Dp K H x d) (h2 : Dp K H y d) (hs : SeqAt.shaped d = true) (he : PyData.eqv d d = true) (q : Q (.bl false) H) : rNeD K x y H Q := ⟨d, d, h1, h2, hs, hs, by rw [he]; exact q⟩
theorem w_eqD {K : PySem.W.Frag} {H : Hp} {Q : VK} {x y : V} (d : PyData) (h1 : Dp K H x d) (h2 : Dp K H y d) (hs : SeqAt.shaped d = true) (he : PyData.eqv d d = true) (q : Q (.bl true) H) : rEqD K x y H Q := ⟨d, d, h1, h2, hs, hs, by rw [he]; exact q⟩
end Toy

open PySem L2 Toy in
local macro_rules | `(tactic| walk_at "hl") => `(tactic| first | assumption | exact upd_same | (refine' (upd_ne ?h1).trans ?h2; (case h1 => walk_at "ne"); (case h2 => walk_at "hl")) | (refine' (show Same _ _ by assumption) _ _ ?h1; (case h1 => walk_at "hl")) | (refine' (show Chg _ _ _ by assumption) _ _ ?h1 ?h2; (case h1 => walk_at "hl"); (case h2 => walk_at "ne")))
open PySem L2 Toy in
local macro_rules | `(tactic| walk_at "ne") => `(tactic| first | assumption | (apply Ne.symm; assumption) | (refine' ne_of_none ?h1 ?h2; (case h2 => assumption); (case h1 => walk_at "hl")) | (apply Ne.symm; refine' ne_of_none ?h1 ?h2; (case h2 => assumption); (case h1 => walk_at "hl")) | (refine' ne_of ?h1 ?h2 ?h3; (case h1 => walk_at "hl"); (case h2 => walk_at "hl"); (case h3 => intro z; cases z)))
open PySem L2 Toy in
local macro_rules | `(tactic| walk_at "sq") => `(tactic| first | assumption | (refine' SqL.of ?h1; (case h1 => walk_at "hl")) | (refine' SqT.of ?h1; (case h1 => walk_at "hl")) | exact Same.seq (by assumption) (by assumption) | exact same_seqT (by assumption) (by assumption))
open PySem L2 Toy in
local macro_rules | `(tactic| walk_at "si") => `(tactic| first | omega | decide | (refine ⟨?_, ?_⟩ <;> omega) | exact Or.inl ⟨by omega, by omega⟩ | exact Or.inr ⟨by omega, by omega⟩ | exact ⟨by omega, by omega, by omega⟩ | exact ⟨by decide, by decide, by decide⟩)
open PySem L2 Toy in
local macro_rules | `(tactic| walk_at "st") => `(tactic| first
  | with_reducible first
    | refine w_seq ?_ | refine w_c ?_ | refine w_op ?_ | refine w_un ?_ | refine w_I0 ?_ | refine w_cb ?_ | refine w_cons ?_ | refine w_nil ?_ | refine w_call ?_ | refine w_tup ?_ | refine w_lst ?_
    | refine w_asg ?_ | refine w_gname ?_ | refine w_ret ?_ | refine w_drop ?_ | refine w_ifs ?_ | refine w_if0 ?_ | refine w_test ?_ | refine w_B ?_ | refine w_not ?_ | refine w_andV ?_ | refine w_orV ?_ | refine w_notV ?_ | refine w_bl ?_
    | refine w_next ?_ | refine w_brk ?_ | refine w_cont ?_ | refine w_retN ?_ | refine w_fld0 ?_ | refine w_sfld0 ?_ | refine w_meth0 ?_ | refine w_prop0 ?_ | refine w_make ?_ | refine w_par ?_ | refine w_vw ?_ | refine w_gsub ?_ | refine w_gcons ?_ | refine w_gnil ?_
    | refine w_iI ?_ | refine w_iIJ ?_ | refine w_int1 ?_ | refine iteT ?_ | refine iteF ?_ | refine w_methSx0 ?_ | refine w_methN0 ?_ | refine w_callN ?_ | refine w_callS ?_ | refine w_yes ?_ | refine w_mko0 ?_ | refine w_bm ?_ | refine w_bm0 ?_ | refine w_forR1 ?_ | refine w_forL ?_ | refine w_forT ?_ | refine iteNT ?_ | refine iteNF ?_
  | ((with_reducible refine' w_var ?h ?_); (case h => rfl))
  | ((with_reducible refine' w_I ?h ?_); (case h => walk_at "si"))
  | ((with_reducible refine' w_ixL ?h ?g ?_); (case h => walk_at "sq"); (case g => first | rfl | assumption))
  | ((with_reducible refine' w_ixT ?h ?g ?_); (case h => walk_at "sq"); (case g => first | rfl | assumption))
  | ((with_reducible refine' w_setL ?h ?g ?_); (case h => walk_at "hl"); (case g => first | rfl | assumption))
  | ((with_reducible refine' w_gtup ?h ?g ?_); (case h => walk_at "sq"); (case g => rfl))
  | ((with_reducible refine' w_lenL ?h ?_); (case h => walk_at "sq"))
  | ((with_reducible refine' w_lenT ?h ?_); (case h => walk_at "sq"))
  | ((with_reducible refine' w_eq ?h ?_); (case h => rfl))
  | ((with_reducible refine' w_ne ?h ?_); (case h => rfl))
  | ((with_reducible refine' w_ea ?h ?_); (case h => rfl))
  | ((with_reducible refine' w_fld ?h ?c ?n ?l ?_); (case h => walk_at "hl"); (case c => walk_at "cls"); (case n => walk_at "nat"); (case l => rfl))
  | ((with_reducible refine' w_sfld ?h ?c ?n ?l ?e ?_); (case h => walk_at "hl"); (case c => walk_at "cls"); (case n => walk_at "nat"); (case l => exact Nat.le_of_ble_eq_true rfl); (case e => rfl))
  | ((with_reducible refine' w_meth ?h ?l ?_); (case h => walk_at "hl"); (case l => rfl))
  | ((with_reducible refine' w_prop ?h ?_); (case h => walk_at "hl"))
  | ((with_reducible refine' w_tyL ?h ?_); (case h => walk_at "sq"))
  | ((with_reducible refine' w_app ?h ?z ?_); (case h => walk_at "hl"); (case z => first | omega | (simp; omega) | simp))
  | ((with_reducible refine' w_cat ?h ?g ?z ?_); (case h => walk_at "hl"); (case g => walk_at "hl"); (case z => first | omega | (simp; omega) | simp))
  | ((with_reducible refine' w_laid ?h ?_); (case h => simp)))
namespace Toy
open PySem L2
def top (i : Nat) : Stmt := PySem.Challenge.pw_orderlycore_k12_whole_whims_taken.main.body.getD i (.Pass ⟨0, 0, 0, 0⟩)
abbrev s_CoreError___init__ : Stmt := inClass (top 1) 0
theorem sc_CoreError___init__ : FnScope ["self", "value"] ["self", "value"] (defScope s_CoreError___init__) := ⟨rfl, rfl, rfl, by decide +kernel, rfl, by decide +kernel, by decide +kernel⟩
abbrev s_is_integer : Stmt := top 5
theorem sc_is_integer : FnScope ["value"] ["value"] (defScope s_is_integer) := ⟨rfl, rfl, rfl, by decide +kernel, rfl, by decide +kernel, by decide +kernel⟩
abbrev s_is_count : Stmt := top 6
theorem sc_is_count : FnScope ["value"] ["value"] (defScope s_is_count) := ⟨rfl, rfl, rfl, by decide +kernel, rfl, by decide +kernel, by decide +kernel⟩
abbrev s_is_list : Stmt := top 7
theorem sc_is_list : FnScope ["value"] ["value"] (defScope s_is_list) := ⟨rfl, rfl, rfl, by decide +kernel, rfl, by decide +kernel, by decide +kernel⟩
abbrev s_Whims___init__ : Stmt := inClass (top 11) 0
theorem sc_Whims___init__ : FnScope ["self", "numbers", "number"] ["self", "numbers"] (defScope s_Whims___init__) := ⟨rfl, rfl, rfl, by decide +kernel, rfl, by decide +kernel, by decide +kernel⟩
abbrev s_Whims_taken : Stmt := inClass (top 11) 1
theorem sc_Whims_taken : FnScope ["self"] ["self"] (defScope s_Whims_taken) := ⟨rfl, rfl, rfl, by decide +kernel, rfl, by decide +kernel, by decide +kernel⟩
abbrev s_Whims_take : Stmt := inClass (top 11) 2
theorem sc_Whims_take : FnScope ["self", "many", "at"] ["self", "many"] (defScope s_Whims_take) := ⟨rfl, rfl, rfl, by decide +kernel, rfl, by decide +kernel, by decide +kernel⟩
abbrev s_Whims_copy : Stmt := inClass (top 11) 3
theorem sc_Whims_copy : FnScope ["self", "found"] ["self"] (defScope s_Whims_copy) := ⟨rfl, rfl, rfl, by decide +kernel, rfl, by decide +kernel, by decide +kernel⟩
abbrev s__law_pot : Stmt := top 13
theorem sc__law_pot : FnScope ["_law_script", "_law_k", "_law_cell"] ["_law_script", "_law_k"] (defScope s__law_pot) := ⟨rfl, rfl, rfl, by decide +kernel, rfl, by decide +kernel, by decide +kernel⟩
abbrev s__law_draw : Stmt := top 14
theorem sc__law_draw : FnScope ["_law_pot_here", "_law_size", "_law_digit"] ["_law_pot_here", "_law_size"] (defScope s__law_draw) := ⟨rfl, rfl, rfl, by decide +kernel, rfl, by decide +kernel, by decide +kernel⟩
abbrev s__law_pick : Stmt := top 15
theorem sc__law_pick : FnScope ["_law_pot_here", "_law_some"] ["_law_pot_here", "_law_some"] (defScope s__law_pick) := ⟨rfl, rfl, rfl, by decide +kernel, rfl, by decide +kernel, by decide +kernel⟩
abbrev s__law_refused : Stmt := top 16
theorem sc__law_refused : FnScope ["_law_whims", "_law_many", "_law_told"] ["_law_whims", "_law_many"] (defScope s__law_refused) := ⟨rfl, rfl, rfl, by decide +kernel, rfl, by decide +kernel, by decide +kernel⟩
abbrev s__law_due : Stmt := top 17
theorem sc__law_due : FnScope ["_law_numbers", "_law_at", "_law_many"] ["_law_numbers", "_law_at", "_law_many"] (defScope s__law_due) := ⟨rfl, rfl, rfl, by decide +kernel, rfl, by decide +kernel, by decide +kernel⟩
abbrev s_law : Stmt := top 18
theorem sc_law : FnScope ["_law_script", "_law_pot_here", "_law_numbers", "_law_turn", "_law_handed", "_law_whims", "_law_rows", "_law_held", "_law_at", "_law_place", "_law_some", "_law_told", "_law_way", "_law_many", "_law_found", "_law_again"] ["_law_script"] (defScope s_law) := ⟨rfl, rfl, rfl, by decide +kernel, rfl, by decide +kernel, by decide +kernel⟩
structure Ad where
  f_CoreError___init__ : Addr
  d_CoreError___init__ : FuncData
  f_is_integer : Addr
  d_is_integer : FuncData
  f_is_count : Addr
  d_is_count : FuncData
  f_is_list : Addr
  d_is_list : FuncData
  f_Whims___init__ : Addr
  d_Whims___init__ : FuncData
  f_Whims_taken : Addr
  d_Whims_taken : FuncData
  p_Whims_taken : Addr
  f_Whims_take : Addr
  d_Whims_take : FuncData
  f_Whims_copy : Addr
  d_Whims_copy : FuncData
  f__law_pot : Addr
  d__law_pot : FuncData
  f__law_draw : Addr
  d__law_draw : FuncData
  f__law_pick : Addr
  d__law_pick : FuncData
  f__law_refused : Addr
  d__law_refused : FuncData
  f__law_due : Addr
  d__law_due : FuncData
  f_law : Addr
  d_law : FuncData
  c_CoreError : Addr
  c_InvalidMany : Addr
  c_InvalidNumbers : Addr
  c_Whims : Addr
  t_MOST_NUMBERS : Tok
  t_MOST_NUMBER : Tok
structure Txt (K : PySem.W.Frag) (mg : Str → Option Value) (a : Ad) : Prop where
  g_CoreError : mg "CoreError" = some (.ref a.c_CoreError)
  x_CoreError : OexC K a.c_CoreError
  xi_CoreError : PySem.W.findIn K (.ref a.c_CoreError) "__init__" = some (some (.ref a.f_CoreError___init__))
  xn_CoreError_value : PySem.W.findIn K (.ref a.c_CoreError) "value" = some none
  g_InvalidMany : mg "InvalidMany" = some (.ref a.c_InvalidMany)
  x_InvalidMany : OexC K a.c_InvalidMany
  xi_InvalidMany : PySem.W.findIn K (.ref a.c_InvalidMany) "__init__" = some (some (.ref a.f_CoreError___init__))
  xn_InvalidMany_value : PySem.W.findIn K (.ref a.c_InvalidMany) "value" = some none
  xe_InvalidMany : PySem.W.exmOne K (.ref a.c_InvalidMany) (.ref a.c_InvalidMany) = some true
  g_InvalidNumbers : mg "InvalidNumbers" = some (.ref a.c_InvalidNumbers)
  x_InvalidNumbers : OexC K a.c_InvalidNumbers
  xi_InvalidNumbers : PySem.W.findIn K (.ref a.c_InvalidNumbers) "__init__" = some (some (.ref a.f_CoreError___init__))
  xn_InvalidNumbers_value : PySem.W.findIn K (.ref a.c_InvalidNumbers) "value" = some none
  g_Whims : mg "Whims" = some (.ref a.c_Whims)
  c_Whims : Cls K a.c_Whims
  n_Whims_own_numbers : NoAttr K a.c_Whims "own_numbers"
  n_Whims_own_taken : NoAttr K a.c_Whims "own_taken"
  k_Whims : Mk K a.c_Whims a.f_Whims___init__
  F_CoreError___init__ : Fun K "__init__" "CoreError.__init__" s_CoreError___init__ a.f_CoreError___init__ a.d_CoreError___init__
  b_CoreError___init__ : Binds K a.d_CoreError___init__ ["self", "value"] []
  xt_CoreError___init__ : PySem.W.typeIn K (.ref a.f_CoreError___init__) = some (.type "function")
  m_is_integer : mg "is_integer" = some (.ref a.f_is_integer)
  F_is_integer : Fun K "is_integer" "is_integer" s_is_integer a.f_is_integer a.d_is_integer
  b_is_integer : Binds K a.d_is_integer ["value"] []
  m_is_count : mg "is_count" = some (.ref a.f_is_count)
  F_is_count : Fun K "is_count" "is_count" s_is_count a.f_is_count a.d_is_count
  b_is_count : Binds K a.d_is_count ["value"] []
  m_is_list : mg "is_list" = some (.ref a.f_is_list)
  F_is_list : Fun K "is_list" "is_list" s_is_list a.f_is_list a.d_is_list
  b_is_list : Binds K a.d_is_list ["value"] []
  F_Whims___init__ : Fun K "__init__" "Whims.__init__" s_Whims___init__ a.f_Whims___init__ a.d_Whims___init__
  b_Whims___init__ : Binds K a.d_Whims___init__ ["self", "numbers"] []
  F_Whims_taken : Fun K "taken" "Whims.taken" s_Whims_taken a.f_Whims_taken a.d_Whims_taken
  b_Whims_taken : Binds K a.d_Whims_taken ["self"] []
  p_Whims_taken : PropOf K a.c_Whims "taken" a.p_Whims_taken a.f_Whims_taken
  F_Whims_take : Fun K "take" "Whims.take" s_Whims_take a.f_Whims_take a.d_Whims_take
  b_Whims_take : Binds K a.d_Whims_take ["self", "many"] []
  M_Whims_take : Meth K a.c_Whims "take" a.f_Whims_take
  F_Whims_copy : Fun K "copy" "Whims.copy" s_Whims_copy a.f_Whims_copy a.d_Whims_copy
  b_Whims_copy : Binds K a.d_Whims_copy ["self"] []
  M_Whims_copy : Meth K a.c_Whims "copy" a.f_Whims_copy
  m__law_pot : mg "_law_pot" = some (.ref a.f__law_pot)
  F__law_pot : Fun K "_law_pot" "_law_pot" s__law_pot a.f__law_pot a.d__law_pot
  b__law_pot : Binds K a.d__law_pot ["_law_script", "_law_k"] []
  m__law_draw : mg "_law_draw" = some (.ref a.f__law_draw)
  F__law_draw : Fun K "_law_draw" "_law_draw" s__law_draw a.f__law_draw a.d__law_draw
  b__law_draw : Binds K a.d__law_draw ["_law_pot_here", "_law_size"] []
  m__law_pick : mg "_law_pick" = some (.ref a.f__law_pick)
  F__law_pick : Fun K "_law_pick" "_law_pick" s__law_pick a.f__law_pick a.d__law_pick
  b__law_pick : Binds K a.d__law_pick ["_law_pot_here", "_law_some"] []
  m__law_refused : mg "_law_refused" = some (.ref a.f__law_refused)
  F__law_refused : Fun K "_law_refused" "_law_refused" s__law_refused a.f__law_refused a.d__law_refused
  b__law_refused : Binds K a.d__law_refused ["_law_whims", "_law_many"] []
  m__law_due : mg "_law_due" = some (.ref a.f__law_due)
  F__law_due : Fun K "_law_due" "_law_due" s__law_due a.f__law_due a.d__law_due
  b__law_due : Binds K a.d__law_due ["_law_numbers", "_law_at", "_law_many"] []
  m_law : mg "law" = some (.ref a.f_law)
  F_law : Fun K "law" "law" s_law a.f_law a.d_law
  b_law : Binds K a.d_law ["_law_script"] []
  kb_Whims_take_1_many : KBn K a.d_Whims_take ["self", "many"] 1 ["many"] (fun us ws => [us.getD 0 PySem.Value.none, ws.getD 0 PySem.Value.none]) (fun us ws => [us.getD 0 V.non, ws.getD 0 V.non])
  z_abs : mg "abs" = none
  z_all : mg "all" = none
  z_bool : mg "bool" = none
  z_divmod : mg "divmod" = none
  z_int : mg "int" = none
  z_isinstance : mg "isinstance" = none
  z_len : mg "len" = none
  z_list : mg "list" = none
  z_max : mg "max" = none
  z_range : mg "range" = none
  z_tuple : mg "tuple" = none
  v_MOST_NUMBERS : mg "MOST_NUMBERS" = some (.int 200 a.t_MOST_NUMBERS)
  v_MOST_NUMBER : mg "MOST_NUMBER" = some (.int 1000000 a.t_MOST_NUMBER)
local macro_rules | `(tactic| walk_at "cls") => `(tactic| first | assumption | exact Txt.c_Whims (by assumption))
local macro_rules | `(tactic| walk_at "nat") => `(tactic| first | assumption | exact Txt.n_Whims_own_numbers (by assumption) | exact Txt.n_Whims_own_taken (by assumption))
--P1
/-! ### 1. What values are -/
def isI : V → Bool
  | .int _ => true
  | _ => false
def cnt : V → Bool
  | .int n => decide (0 ≤ n)
  | _ => false
/-- its type is known, and says whether it is an int that is no bool -/
def KInt (K : PySem.W.Frag) (H : Hp) (v : V) (b : Bool) : Prop := ∃ (t : Value) (b1 b2 : Bool), TyX K H v t ∧ PySem.W.kitOne K t (.type "int") = some b1 ∧ (b1 = true → PySem.W.kitOne K t (.type "bool") = some b2) ∧ b = (b1 && !b2)
theorem kint_int {K : PySem.W.Frag} {H : Hp} (n : Int) : KInt K H (.int n) true :=
  ⟨.type "int", true, false, .base (.int n), kit_ty (by decide +kernel), fun _ => kit_ty (by decide +kernel), rfl⟩
def spInt (K : PySem.W.Frag) : Sp := fun vs H Q _ => ∃ (v : V) (b : Bool), vs = [v] ∧ KInt K H v b ∧ Q (.bl b) H
def spCount (K : PySem.W.Frag) : Sp := fun vs H Q _ => ∃ (v : V), vs = [v] ∧ KInt K H v (isI v) ∧ Q (.bl (cnt v)) H
def spList (K : PySem.W.Frag) : Sp := fun vs H Q _ => ∃ (v : V) (t : Value) (b : Bool), vs = [v] ∧ TyX K H v t ∧ PySem.W.kitAny K t [.type "list", .type "tuple"] = some b ∧ ∀ H', Same H H' → Q (.bl b) H'
/-- a pot: two numbers that are not negative, the second one small -/
def Pot (H : Hp) (p : Addr) : Prop := ∃ x y : Int, H p = some (.lst [.int x, .int y]) ∧ 0 ≤ x ∧ 0 ≤ y ∧ y < 4294967296
def spPot (K : PySem.W.Frag) : Sp := fun vs H Q _ => ∃ (s : Addr) (ns : List Int) (k : Int), vs = [.ref s, .int k] ∧ SqL K H s (ns.map V.int) ∧ 0 ≤ k ∧ k ≤ 1000 ∧
  ∀ p H', Same H H' → H p = none → Pot H' p → Q (.ref p) H'
def spDraw : Sp := fun vs H Q _ => ∃ (p : Addr) (n : Int), vs = [.ref p, .int n] ∧ Pot H p ∧ 0 < n ∧ n < 1000000000 ∧
  ∀ d H', Chg p H H' → Pot H' p → 0 ≤ d → d < n → Q (.int d) H'
def spPick (K : PySem.W.Frag) : Sp := fun vs H Q _ => ∃ (p s : Addr) (xs : List V), vs = [.ref p, .ref s] ∧ Pot H p ∧ SqL K H s xs ∧ s ≠ p ∧ (∀ H', Chg p H H' → SqL K H' s xs) ∧ 0 < xs.length ∧ xs.length < 1000000000 ∧
  ∀ v H', Chg p H H' → Pot H' p → v ∈ xs → Q v H'
def due (ns : List Int) (i : Nat) (m : Int) : Int := if i < ns.length then ns.getD i 0 % m else 0
def spDue (K : PySem.W.Frag) : Sp := fun vs H Q _ => ∃ (s : Addr) (ns : List Int) (i : Nat) (m : Int), vs = [.ref s, .int i, .int m] ∧ SqL K H s (ns.map V.int) ∧ 0 < m ∧ Q (.int (due ns i m)) H
/-! ### 2. Whims -/
def fW (t : Addr) (n : Int) : List (Str × V) := [("own_numbers", V.ref t), ("own_taken", V.int n)]
/-- a Whims of the numbers ns stands at w, n were taken -/
def WhAt (C : Addr) (H : Hp) (w : Addr) (ns : List Int) (n : Nat) : Prop := ∃ dx t, H w = some (.ins C dx (fW t n)) ∧ H t = some (.tup (ns.map V.int))
def NumsOk (ns : List Int) : Prop := ns.length ≤ 200 ∧ ∀ n ∈ ns, 0 ≤ n ∧ n ≤ 1000000
def spWInit (C : Addr) : Sp := fun vs H Q _ => ∃ (x dx l : Addr) (ns : List Int), vs = [.ref x, .ref l] ∧ H x = some (.ins C dx []) ∧ (H l = some (.lst (ns.map V.int)) ∨ H l = some (.tup (ns.map V.int))) ∧ NumsOk ns ∧
  ∀ H', Chg x H H' → WhAt C H' x ns 0 → Q .non H'
def spWTaken (C : Addr) : Sp := fun vs H Q _ => ∃ (x : Addr) (ns : List Int) (n : Nat), vs = [.ref x] ∧ WhAt C H x ns n ∧ Q (.int n) H
def spWTake (K : PySem.W.Frag) (C D : Addr) : Sp := fun vs H Q E => ∃ (x : Addr) (ns : List Int) (n : Nat) (m : Int), vs = [.ref x, .int m] ∧ WhAt C H x ns n ∧ (0 < m → ∀ H', Chg x H H' → WhAt C H' x ns (n + 1) → Q (.int (due ns n m)) H') ∧
  (¬ 0 < m → ∀ d H', Same H H' → H d = none → H' d = some (.xd [("value", .int m)]) → E (.ref D) (some d) H')
def spWCopy (C : Addr) : Sp := fun vs H Q _ => ∃ (x : Addr) (ns : List Int) (n : Nat), vs = [.ref x] ∧ WhAt C H x ns n ∧ NumsOk ns ∧ ∀ y H', Same H H' → H y = none → WhAt C H' y ns n → Q (.ref y) H'
def spRefused (C : Addr) : Sp := fun vs H Q _ => ∃ (x : Addr) (ns : List Int) (n : Nat) (m : Int), vs = [.ref x, .int m] ∧ WhAt C H x ns n ∧ ¬ 0 < m ∧ ∀ H', Same H H' → Q (.bl true) H'
theorem Pot.same {H H' : Hp} {p : Addr} (s : Same H H') : Pot H p → Pot H' p := fun ⟨x, y, h, r⟩ => ⟨x, y, s _ _ h, r⟩
theorem Pot.chg {H H' : Hp} {p q : Addr} (s : Chg q H H') (n : p ≠ q) : Pot H p → Pot H' p := fun ⟨x, y, h, r⟩ => ⟨x, y, s _ _ h n, r⟩
theorem Pot.upd {H : Hp} {p q : Addr} {o : HO} (n : p ≠ q) : Pot H p → Pot (L2.upd H q o) p := fun ⟨x, y, h, r⟩ => ⟨x, y, (upd_ne n).trans h, r⟩
theorem Pot.new {H : Hp} {p q : Addr} {o : HO} (n : H q = none) : Pot H p → Pot (L2.upd H q o) p := Pot.same (same_new n)
theorem Pot.ne {H : Hp} {p q : Addr} (n : H q = none) : Pot H p → p ≠ q := fun ⟨x, y, h, r⟩ => ne_of_none h n
/-! ### 3. What the law holds -/
def ToldAt (G : Hp) (l : Addr) (ps : List (Int × Int)) : Prop := ∃ rs : List Addr, G l = some (.lst (rs.map V.ref)) ∧ rs.length = ps.length ∧ ∀ (i : Nat) (r : Addr) (m f : Int), rs[i]? = some r → ps[i]? = some (m, f) → G r = some (.tup [.int m, .int f])
def PsOk (ns : List Int) (ps : List (Int × Int)) : Prop := ∀ (i : Nat) (m f : Int), ps[i]? = some (m, f) → 0 < m ∧ f = due ns i m
abbrev Ent := Addr × Addr × List (Int × Int)
def EntOk (C : Addr) (ns : List Int) (G H : Hp) (e : Ent) : Prop := ∃ l, G e.1 = some (.tup [.ref e.2.1, .int e.2.2.length, .ref l]) ∧ G e.2.1 = none ∧ WhAt C H e.2.1 ns e.2.2.length ∧ ToldAt G l e.2.2 ∧ PsOk ns e.2.2
structure Held (C : Addr) (ns : List Int) (G H : Hp) (p nl hd w0 : Addr) (es : List Ent) (i : Nat) : Prop where
  sub : Same G H
  gp : G p = none
  gh : G hd = none
  ne : p ≠ hd
  pot : Pot H p
  num : G nl = some (.lst (ns.map V.int))
  nok : NumsOk ns
  hld : H hd = some (.lst (es.map fun e => V.ref e.1))
  l1 : 1 ≤ es.length
  l4 : es.length ≤ 4
  nd : (es.map fun e => e.2.1).Nodup
  ok : ∀ e ∈ es, EntOk C ns G H e
  sz : ∀ e ∈ es, e.2.2.length ≤ i
  hd0 : ∃ tu ps, es[0]? = some (tu, w0, ps)
theorem ToldAt.grow {G G' : Hp} {l : Addr} {ps : List (Int × Int)} (s : Same G G') : ToldAt G l ps → ToldAt G' l ps := fun ⟨rs, h1, h2, h3⟩ => ⟨rs, s _ _ h1, h2, fun i r m f a b => s _ _ (h3 i r m f a b)⟩
theorem WhAt.same {C : Addr} {H H' : Hp} {w : Addr} {ns : List Int} {n : Nat} (s : Same H H') : WhAt C H w ns n → WhAt C H' w ns n := fun ⟨dx, t, h1, h2⟩ => ⟨dx, t, s _ _ h1, s _ _ h2⟩
theorem WhAt.chg {C x : Addr} {H H' : Hp} {w : Addr} {ns : List Int} {n : Nat} (c : Chg x H H') (h : w ≠ x) (hx : ∀ xs, H x ≠ some (.tup xs)) : WhAt C H w ns n → WhAt C H' w ns n := fun ⟨dx, t, h1, h2⟩ =>
  ⟨dx, t, c _ _ h1 h, c _ _ h2 (fun z => hx _ (by rw [← z]; exact h2))⟩
theorem WhAt.ne_pot {C : Addr} {H : Hp} {w p : Addr} {ns : List Int} {n : Nat} : WhAt C H w ns n → Pot H p → w ≠ p := fun ⟨dx, t, h1, _⟩ ⟨x, y, h2, _⟩ => ne_of h1 h2 (by intro z; cases z)
theorem Pot.ntup {H : Hp} {p : Addr} : Pot H p → ∀ xs, H p ≠ some (.tup xs) := fun ⟨x, y, h, _⟩ xs z => by rw [h] at z; cases z
theorem WhAt.updL {C : Addr} {H : Hp} {w x : Addr} {ns : List Int} {n : Nat} {xs : List V} {o : HO} (z : WhAt C H w ns n) (h : H x = some (.lst xs)) : WhAt C (L2.upd H x o) w ns n := by
  obtain ⟨dx, t, h1, h2⟩ := z
  exact ⟨dx, t, (upd_ne (ne_of h1 h (by intro z; cases z))).trans h1, (upd_ne (ne_of h2 h (by intro z; cases z))).trans h2⟩
theorem tup3_inj {a b c a' b' c' : V} (h : some (HO.tup [a, b, c]) = some (HO.tup [a', b', c'])) : c = c' := by
  simp only [Option.some.injEq, HO.tup.injEq, List.cons.injEq] at h
  exact h.2.2.1
theorem ent_at {es : List Ent} {d : Int} (h0 : 0 ≤ d) (h1 : d < (es.map fun e => V.ref e.1).length) : ∃ en, es[d.toNat]? = some en ∧ en ∈ es ∧ atI (es.map fun e => V.ref e.1) d = some (.ref en.1) := by
  obtain ⟨v, _, e1, e2⟩ := atI_mem h0 h1
  rw [List.getElem?_map] at e2
  cases e : es[d.toNat]? with
  | none => rw [e] at e2; cases e2
  | some en =>
    rw [e] at e2
    exact ⟨en, rfl, List.mem_of_getElem? e, by rw [e1, ← Option.some.inj e2]⟩
theorem ent_get {es : List Ent} {j : Nat} {x : V} (h : (es.map fun e => V.ref e.1)[j]? = some x) : ∃ en, es[j]? = some en ∧ en ∈ es ∧ x = .ref en.1 := by
  rw [List.getElem?_map] at h
  cases e : es[j]? with
  | none => rw [e] at h; cases h
  | some en =>
    rw [e] at h
    exact ⟨en, rfl, List.mem_of_getElem? e, (Option.some.inj h).symm⟩
theorem EntOk.step {C : Addr} {ns : List Int} {G G' H H' : Hp} {e : Ent} (s : Same G G') (hw : G' e.2.1 = none) (h : WhAt C H e.2.1 ns e.2.2.length → WhAt C H' e.2.1 ns e.2.2.length) : EntOk C ns G H e → EntOk C ns G' H' e :=
  fun ⟨l, h1, _, h3, h4, h5⟩ => ⟨l, s _ _ h1, hw, h h3, h4.grow s, h5⟩
theorem Held.same {C : Addr} {ns : List Int} {G H H' : Hp} {p nl hd w0 : Addr} {es : List Ent} {i j : Nat} (I : Held C ns G H p nl hd w0 es i) (s : Same H H') (h : i ≤ j) : Held C ns G H' p nl hd w0 es j :=
  ⟨I.sub.trans s, I.gp, I.gh, I.ne, I.pot.same s, I.num, I.nok, s _ _ I.hld, I.l1, I.l4, I.nd, fun e he => (I.ok e he).step (Same.refl _) (I.ok e he).choose_spec.2.1 fun z => z.same s, fun e he => Nat.le_trans (I.sz e he) h, I.hd0⟩
theorem Held.pot_chg {C : Addr} {ns : List Int} {G H H' : Hp} {p nl hd w0 : Addr} {es : List Ent} {i : Nat} (I : Held C ns G H p nl hd w0 es i) (c : Chg p H H') (hp : Pot H' p) : Held C ns G H' p nl hd w0 es i :=
  ⟨sub_chg I.sub I.gp c, I.gp, I.gh, I.ne, hp, I.num, I.nok, c _ _ I.hld I.ne.symm, I.l1, I.l4, I.nd, fun e he => (I.ok e he).step (Same.refl _) (I.ok e he).choose_spec.2.1 fun z => z.chg c (z.ne_pot I.pot) I.pot.ntup, I.sz, I.hd0⟩
theorem Held.chg {C : Addr} {ns : List Int} {G H H' : Hp} {p nl hd w0 x : Addr} {es : List Ent} {i : Nat} (I : Held C ns G H p nl hd w0 es i) (c : Chg x H H') (gx : G x = none) (px : p ≠ x) (hx : hd ≠ x) (wx : ∀ e ∈ es, e.2.1 ≠ x) (nt : ∀ xs, H x ≠ some (.tup xs)) : Held C ns G H' p nl hd w0 es i :=
  ⟨sub_chg I.sub gx c, I.gp, I.gh, I.ne, I.pot.chg c px, I.num, I.nok, c _ _ I.hld hx, I.l1, I.l4, I.nd, fun e he => (I.ok e he).step (Same.refl _) (I.ok e he).choose_spec.2.1 fun z => z.chg c (wx e he) nt, I.sz, I.hd0⟩
--P1E
def sp_law (K : PySem.W.Frag) : Sp := fun vs H Q _ => ∃ (a : Addr) (ns : List Int), vs = [.ref a] ∧ SqL K H a (ns.map V.int) ∧ ns.length ≤ 63 ∧ ∀ H', Q (.bl true) H'
section
variable {P : Program} {w : World} {K : PySem.W.Frag} {mg : Str → Option Value} {base : Heap} {a : Ad}
--P2
theorem ok_CoreError___init__ (T : Txt K mg a) : FnOk P w K mg base (L2.CX P w) 1 a.f_CoreError___init__ a.d_CoreError___init__ ["self", "value"] (spCore K) := by
  refine T.F_CoreError___init__.okX sc_CoreError___init__ (fun vs H Q E h => ?_) (fun cdv A outer s H vs Q E hr h => ?_)
  · obtain ⟨_, _, _, rfl, _⟩ := h
    rfl
  · obtain ⟨x, C, v, rfl, hC, hn, hx, k⟩ := h
    refine ⟨_, (pss_one (ps_ost (pv 0) (pv 1))), ?_⟩
    exact ⟨_, rfl, _, rfl, x, C, rfl, hC, hn, .inl ⟨hx, fun dx n ne => k dx n ne⟩⟩
theorem ok_is_integer (T : Txt K mg a) : FnOk P w K mg base (L2.CX P w) 1 a.f_is_integer a.d_is_integer ["value"] (spInt K) := by
  refine T.F_is_integer.okX sc_is_integer (fun vs H Q E h => ?_) (fun cdv A outer s H vs Q E hr h => ?_)
  · obtain ⟨_, _, rfl, _⟩ := h
    rfl
  · obtain ⟨v, b, rfl, ⟨t, b1, b2, ty, e1, e2, rfl⟩, k⟩ := h
    refine ⟨_, (pss_one (ps_ret (pe_and (pe_callB call_isi (by rfl) T.z_isinstance (by decide +kernel) (pa_cons (pv 0) (pa_cons (pe_bltn (v := .ty "int") (u := .type "int") (by rfl) T.z_int (by decide +kernel) rfl) pa_nil))) (pe_one (pe_not (pe_callB call_isi (by rfl) T.z_isinstance (by decide +kernel) (pa_cons (pv 0) (pa_cons (pe_bltn (v := .ty "bool") (u := .type "bool") (by rfl) T.z_bool (by decide +kernel) rfl) pa_nil)))))))), ?_⟩
    refine ⟨_, rfl, v, _, t, _, b1, rfl, .ty "int", ty, e1, b1, rfl, ?_⟩
    cases b1 with
    | false => exact k
    | true => exact ⟨_, rfl, v, _, t, _, b2, rfl, .ty "bool", ty, e2 rfl, b2, rfl, k⟩
theorem ok_is_count (T : Txt K mg a) : FnOk P w K mg base (L2.CX P w) 2 a.f_is_count a.d_is_count ["value"] (spCount K) := by
  refine T.F_is_count.okX sc_is_count (fun vs H Q E h => ?_) (fun cdv A outer s H vs Q E hr h => ?_)
  · obtain ⟨_, rfl, _⟩ := h
    rfl
  · obtain ⟨v, rfl, hk, k⟩ := h
    refine ⟨_, (pss_one (ps_ret (pe_and (pe_call (ok_is_integer T) (hr.mono (by decide)) (by rfl) T.m_is_integer T.F_is_integer.kp T.b_is_integer .nil passL (pa_cons (pv 0) pa_nil)) (pe_one (pe_cmpR op_ge (pv 0) pe_int (nomark _)))))), ?_⟩
    refine ⟨_, rfl, v, _, rfl, hk, _, rfl, ?_⟩
    cases v with
    | int n => exact ⟨_, rfl, _, _, rfl, rfl, k⟩
    | _ => exact k
theorem ok_is_list (T : Txt K mg a) : FnOk P w K mg base (L2.CX P w) 1 a.f_is_list a.d_is_list ["value"] (spList K) := by
  refine T.F_is_list.okX sc_is_list (fun vs H Q E h => ?_) (fun cdv A outer s H vs Q E hr h => ?_)
  · obtain ⟨_, _, _, rfl, _⟩ := h
    rfl
  · obtain ⟨v, t, b, rfl, ty, e, k⟩ := h
    refine ⟨_, (pss_one (ps_ret (pe_callB call_isiT (by rfl) T.z_isinstance (by decide +kernel) (pa_cons (pv 0) (pa_cons (pe_tup (pa_cons (pe_bltn (v := .ty "list") (u := .type "list") (by rfl) T.z_list (by decide +kernel) rfl) (pa_cons (pe_bltn (v := .ty "tuple") (u := .type "tuple") (by rfl) T.z_tuple (by decide +kernel) rfl) pa_nil))) pa_nil))))), ?_⟩
    refine ⟨_, rfl, by show 2 ≤ sizeLine; decide, fun p np => ?_⟩
    refine ⟨v, p, _, t, _, b, rfl, upd_same, .cons (.ty "list") (.cons (.ty "tuple") .nil), same_ty (same_new np) ty, e, k _ (same_new np)⟩
theorem ok__law_pot (T : Txt K mg a) : FnOk P w K mg base (L2.CX P w) 1 a.f__law_pot a.d__law_pot ["_law_script", "_law_k"] (spPot K) := by
  refine T.F__law_pot.okX sc__law_pot (fun vs H Q E h => ?_) (fun cdv A outer s H vs Q E hr h => ?_)
  · obtain ⟨_, _, _, rfl, _⟩ := h
    rfl
  · obtain ⟨sa, ns, k, rfl, hS, hk0, hk1, q⟩ := h
    refine ⟨_, (pss_cons (ps_set (i := 2) sc__law_pot.nd rfl (Or.inl rfl) (pe_op op_add (pe_op op_mul pe_int (pv 1)) pe_int))
      (pss_cons (ps_if (pt_cmpR op_lt (pv 1) (pe_callB call_len_seq (by rfl) T.z_len (by decide +kernel) (pa_cons (pv 0) pa_nil)) (nomark _)) (pss_one (ps_set (i := 2) sc__law_pot.nd rfl (Or.inl rfl) (pe_callB call_abs (by rfl) T.z_abs (by decide +kernel) (pa_cons (pe_ix ix_list (pv 0) (pv 1) (fun _ _ => rfl)) pa_nil)))) pss_nil)
      (pss_one (ps_ret (pe_lst (pa_cons (pe_callB (call_max2 rfl) (by rfl) T.z_max (by decide +kernel) (pa_cons pe_int (pa_cons (pe_op op_sub (pv 2) (pe_op op_pow pe_int pe_int)) pa_nil))) (pa_cons (pe_op op_add (pe_op op_mod (pe_callTy call_int1 (by rfl) T.z_int (by decide +kernel) (pa_cons (pe_op op_add (pe_op op_mul (pe_op op_mod (pe_callTy call_int1 (by rfl) T.z_int (by decide +kernel) (pa_cons (pv 2) pa_nil)) pe_int) (pe_op op_add (pe_op op_mul pe_int (pv 1)) pe_int)) pe_int) pa_nil)) pe_int) pe_int) pa_nil))))))), ?_⟩
    refine w_in (σ := [some (.ref sa), some (.int k), none]) rfl ?_
    repeat (walk_at "st")
    refine ifS (fun h => ?_) (fun h => ?_)
    · obtain ⟨n, _, e, _⟩ := atI_ints hk0 h
      repeat (walk_at "st")
      intro p np
      exact q p _ (same_new np) np ⟨_, _, upd_same, by split <;> omega, by omega, by omega⟩
    · repeat (walk_at "st")
      intro p np
      exact q p _ (same_new np) np ⟨_, _, upd_same, by split <;> omega, by omega, by omega⟩
theorem ok__law_draw (T : Txt K mg a) : FnOk P w K mg base (L2.CX P w) 1 a.f__law_draw a.d__law_draw ["_law_pot_here", "_law_size"] spDraw := by
  refine T.F__law_draw.okX sc__law_draw (fun vs H Q E h => ?_) (fun cdv A outer s H vs Q E hr h => ?_)
  · obtain ⟨_, _, rfl, _⟩ := h
    rfl
  · obtain ⟨p, n, rfl, ⟨x, y, hp, hx, hy, hy2⟩, hn, hn2, q⟩ := h
    refine ⟨_, (pss_cons (ps_if (pt_cmpR op_gt (pe_ix ix_list (pv 0) pe_int (fun _ _ => rfl)) pe_int (nomark _)) (pss_cons (ps_asg (pe_callB call_divmod (by rfl) T.z_divmod (by decide +kernel) (pa_cons (pe_ix ix_list (pv 0) pe_int (fun _ _ => rfl)) (pa_cons (pv 1) pa_nil))) (pg_tup rfl (pgs_cons (pg_sub (pv 0) pe_int set_list) (pgs_cons (pg_name (i := 2) sc__law_draw.nd rfl (Or.inl rfl)) pgs_nil))))
      (pss_one (ps_ret (pv 2)))) pss_nil)
      (pss_cons (ps_asg (pe_op op_mod (pe_callTy call_int1 (by rfl) T.z_int (by decide +kernel) (pa_cons (pe_op op_add (pe_op op_mul (pe_ix ix_list (pv 0) pe_int (fun _ _ => rfl)) pe_int) pe_int) pa_nil)) pe_int) (pg_sub (pv 0) pe_int set_list))
      (pss_one (ps_ret (pe_op op_mod (pe_callTy call_int1 (by rfl) T.z_int (by decide +kernel) (pa_cons (pe_op op_fdiv (pe_op op_mod (pe_callTy call_int1 (by rfl) T.z_int (by decide +kernel) (pa_cons (pe_op op_mul (pe_ix ix_list (pv 0) pe_int (fun _ _ => rfl)) (pe_ix ix_list (pv 0) pe_int (fun _ _ => rfl))) pa_nil)) pe_int) pe_int) pa_nil)) (pv 1)))))), ?_⟩
    refine w_in (σ := [some (.ref p), some (.int n), none]) rfl ?_
    repeat (walk_at "st")
    refine ifS (fun h => ?_) (fun h => ?_)
    · repeat (walk_at "st")
      refine ⟨⟨hn, by omega⟩, fun t nt => ?_⟩
      repeat (walk_at "st")
      exact q _ _ ((Same.chg (same_new nt)).upd) ⟨_, _, upd_same, Int.ediv_nonneg hx (by omega), hy, hy2⟩ (Int.emod_nonneg _ (by omega)) (Int.emod_lt_of_pos _ hn)
    · repeat (walk_at "st")
      exact q _ _ Chg.refl.upd ⟨_, _, upd_same, hx, by omega, by omega⟩ (Int.emod_nonneg _ (by omega)) (Int.emod_lt_of_pos _ hn)
theorem ok__law_pick (T : Txt K mg a) : FnOk P w K mg base (L2.CX P w) 2 a.f__law_pick a.d__law_pick ["_law_pot_here", "_law_some"] (spPick K) := by
  refine T.F__law_pick.okX sc__law_pick (fun vs H Q E h => ?_) (fun cdv A outer s H vs Q E hr h => ?_)
  · obtain ⟨_, _, _, rfl, _⟩ := h
    rfl
  · obtain ⟨p, l, xs, rfl, hp, hl, hne, hk, h0, h1, q⟩ := h
    refine ⟨_, (pss_one (ps_ret (pe_ix ix_list (pv 1) (pe_call (ok__law_draw T) (hr.mono (by decide)) (by rfl) T.m__law_draw T.F__law_draw.kp T.b__law_draw .nil passL (pa_cons (pv 0) (pa_cons (pe_callB call_len_seq (by rfl) T.z_len (by decide +kernel) (pa_cons (pv 1) pa_nil)) pa_nil))) (fun _ _ => rfl)))), ?_⟩
    refine w_in (σ := [some (.ref p), some (.ref l)]) rfl ?_
    repeat (walk_at "st")
    refine ⟨p, _, rfl, hp, by omega, by omega, fun d H' c hp' d0 d1 => ?_⟩
    obtain ⟨v, hv, e, _⟩ := atI_mem d0 d1
    have hl' := hk H' c
    repeat (walk_at "st")
    exact q v H' c hp' hv
theorem ok__law_due (T : Txt K mg a) : FnOk P w K mg base (L2.CX P w) 1 a.f__law_due a.d__law_due ["_law_numbers", "_law_at", "_law_many"] (spDue K) := by
  refine T.F__law_due.okX sc__law_due (fun vs H Q E h => ?_) (fun cdv A outer s H vs Q E hr h => ?_)
  · obtain ⟨_, _, _, _, rfl, _⟩ := h
    rfl
  · obtain ⟨l, ns, i, m, rfl, hS, hm, q⟩ := h
    refine ⟨_, (pss_one (ps_ret (pe_ifExp (pt_cmpR op_lt (pv 1) (pe_callB call_len_seq (by rfl) T.z_len (by decide +kernel) (pa_cons (pv 0) pa_nil)) (nomark _)) (pe_op op_mod (pe_ix ix_list (pv 0) (pv 1) (fun _ _ => rfl)) (pv 2)) pe_int))), ?_⟩
    refine w_in (σ := [some (.ref l), some (.int i), some (.int m)]) rfl ?_
    repeat (walk_at "st")
    refine ifS (fun h => ?_) (fun h => ?_)
    · obtain ⟨n, _, e, e2⟩ := atI_ints (by omega) h
      repeat (walk_at "st")
      have e3 : due ns i m = n % m := by
        rw [List.length_map] at h
        unfold due
        rw [if_pos (by omega), List.getD_eq_getElem?_getD, show ns[i]? = some n from by simpa using e2]
        rfl
      rw [e3] at q
      exact q
    · repeat (walk_at "st")
      have e3 : due ns i m = 0 := by
        rw [List.length_map] at h
        unfold due
        rw [if_neg (by omega)]
      rw [e3] at q
      exact q
theorem ok_Whims___init__ (T : Txt K mg a) : FnOk P w K mg base (L2.CX P w) 3 a.f_Whims___init__ a.d_Whims___init__ ["self", "numbers"] (spWInit a.c_Whims) := by
  refine T.F_Whims___init__.okX sc_Whims___init__ (fun vs H Q E h => ?_) (fun cdv A outer s H vs Q E hr h => ?_)
  · obtain ⟨_, _, _, _, rfl, _⟩ := h
    rfl
  · obtain ⟨x, dx, l, ns, rfl, hx, hl, ⟨hlen, hns⟩, q⟩ := h
    have hz : (ns.map V.int).length ≤ 200 := by simpa using hlen
    rcases hl with hl | hl
    · refine ⟨_, (pss_cons (ps_if (PW.pt (pw_or (pt_not (pt_val (pe_call (ok_is_list T) (hr.mono (by decide)) (by rfl) T.m_is_list T.F_is_list.kp T.b_is_list .nil passL (pa_cons (pv 1) pa_nil)))) (pw_or1 (pt_cmpR op_gt (pe_callB call_len_seq (by rfl) T.z_len (by decide +kernel) (pa_cons (pv 1) pa_nil)) (pe_glob (v := .int 200) (by rfl) T.v_MOST_NUMBERS ⟨_, rfl⟩) (nomark _))))) (pss_one ps_never) pss_nil)
      (pss_cons (ps_if (pt_not (pt_val (pe_callB (cr_all rfl) (by rfl) T.z_all (by decide +kernel) (pa_cons (pe_lc (own := [("number", 2)]) (g := gName 2) (tt := tYes) rfl sc_Whims___init__.nd (pi_list (pv 1)) (blkOk_by (N := ["self", "numbers", "number"]) (sc := defScope s_Whims___init__) (by decide +kernel)) (fun _ _ _ _ _ => (pg_name (i := 2) sc_Whims___init__.nd rfl (Or.inl rfl))) (fun _ _ _ _ _ => pts_nil) (fun _ _ _ _ _ => (pe_and (pe_call (ok_is_count T) (hr.mono (by decide)) (by rfl) T.m_is_count T.F_is_count.kp T.b_is_count .nil passL (pa_cons (pv 2) pa_nil)) (pe_one (pe_cmpR op_le (pv 2) (pe_glob (v := .int 1000000) (by rfl) T.v_MOST_NUMBER ⟨_, rfl⟩) (nomark _)))))) pa_nil)))) (pss_one ps_never) pss_nil)
      (pss_cons (ps_fld (pv 0) (pe_callTy call_tuple_of (by rfl) T.z_tuple (by decide +kernel) (pa_cons (pv 1) pa_nil)) rfl)
      (pss_one (ps_fld (pv 0) pe_int rfl))))), ?_⟩
      refine w_in (σ := [some (.ref x), some (.ref l), none]) rfl ?_
      repeat (walk_at "st")
      refine w_or ?_
      repeat (walk_at "st")
      refine ⟨_, _, _, rfl, .base (.lst hl), kitAny_cons (kit_ty (b := "list") (r := true) (by decide +kernel)) (fun z => by cases z) (fun _ => rfl), fun H1 s1 => ?_⟩
      repeat (walk_at "st")
      refine ifF (by omega) ?_
      repeat (walk_at "st")
      refine' lc_L (fun _ => .bl true) ?v ?h ?z ?t ?q
      case v => exact fun R r => by walk_at "st"; exact r
      case h => walk_at "sq"
      case z => omega
      case t =>
        intro i x' H' R S hi s2 k
        obtain ⟨n, hn, rfl⟩ := map_get hi
        obtain ⟨n0, n1⟩ := hns n hn
        repeat (walk_at "st")
        refine ⟨_, rfl, kint_int n, ?_⟩
        show ∃ k, V.bl (decide (0 ≤ n)) = .bl k ∧ _
        repeat (walk_at "st")
        refine ifT n0 ?_
        repeat (walk_at "st")
        rw [decide_eq_true n1]
        exact k _ (Same.refl _)
      case q =>
        intro D H2 s2 nD hD
        repeat (walk_at "st")
        refine w_allTrue hD ?_
        repeat (walk_at "st")
        refine ⟨_, _, rfl, .inl ⟨by walk_at "sq", fun t nt => ?_⟩⟩
        repeat (walk_at "st")
        refine q _ (fun b o e nb => ?_) ⟨dx, t, upd_same, (upd_ne ?_).trans ((upd_ne ?_).trans upd_same)⟩
        · rw [upd_ne nb, upd_ne nb, upd_ne (ne_of_none (s2 _ _ (s1 _ _ e)) nt)]
          exact s2 _ _ (s1 _ _ e)
        · exact (ne_of_none (s2 _ _ (s1 _ _ hx)) nt).symm
        · exact (ne_of_none (s2 _ _ (s1 _ _ hx)) nt).symm
    · refine ⟨_, (pss_cons (ps_if (PW.pt (pw_or (pt_not (pt_val (pe_call (ok_is_list T) (hr.mono (by decide)) (by rfl) T.m_is_list T.F_is_list.kp T.b_is_list .nil passL (pa_cons (pv 1) pa_nil)))) (pw_or1 (pt_cmpR op_gt (pe_callB call_len_seq (by rfl) T.z_len (by decide +kernel) (pa_cons (pv 1) pa_nil)) (pe_glob (v := .int 200) (by rfl) T.v_MOST_NUMBERS ⟨_, rfl⟩) (nomark _))))) (pss_one ps_never) pss_nil)
      (pss_cons (ps_if (pt_not (pt_val (pe_callB (cr_all rfl) (by rfl) T.z_all (by decide +kernel) (pa_cons (pe_lc (own := [("number", 2)]) (g := gName 2) (tt := tYes) rfl sc_Whims___init__.nd (pi_tup (pv 1)) (blkOk_by (N := ["self", "numbers", "number"]) (sc := defScope s_Whims___init__) (by decide +kernel)) (fun _ _ _ _ _ => (pg_name (i := 2) sc_Whims___init__.nd rfl (Or.inl rfl))) (fun _ _ _ _ _ => pts_nil) (fun _ _ _ _ _ => (pe_and (pe_call (ok_is_count T) (hr.mono (by decide)) (by rfl) T.m_is_count T.F_is_count.kp T.b_is_count .nil passL (pa_cons (pv 2) pa_nil)) (pe_one (pe_cmpR op_le (pv 2) (pe_glob (v := .int 1000000) (by rfl) T.v_MOST_NUMBER ⟨_, rfl⟩) (nomark _)))))) pa_nil)))) (pss_one ps_never) pss_nil)
      (pss_cons (ps_fld (pv 0) (pe_callTy call_tuple_of (by rfl) T.z_tuple (by decide +kernel) (pa_cons (pv 1) pa_nil)) rfl)
      (pss_one (ps_fld (pv 0) pe_int rfl))))), ?_⟩
      refine w_in (σ := [some (.ref x), some (.ref l), none]) rfl ?_
      repeat (walk_at "st")
      refine w_or ?_
      repeat (walk_at "st")
      refine ⟨_, _, _, rfl, .base (.tup hl), kitAny_cons (kit_ty (b := "list") (r := false) (by decide +kernel)) (fun _ => kitAny_cons (kit_ty (b := "tuple") (r := true) (by decide +kernel)) (fun z => by cases z) (fun _ => rfl)) (fun z => by cases z), fun H1 s1 => ?_⟩
      repeat (walk_at "st")
      refine ifF (by omega) ?_
      repeat (walk_at "st")
      refine' lc_T (fun _ => .bl true) ?v2 ?h2 ?z2 ?s2 ?t2 ?q2
      case v2 => exact fun R r => by walk_at "st"; exact r
      case h2 => walk_at "sq"
      case z2 => omega
      case s2 => exact fun _ s => same_seqT s (by walk_at "sq")
      case t2 =>
        intro i x' H' R S hi s2 k
        obtain ⟨n, hn, rfl⟩ := map_get hi
        obtain ⟨n0, n1⟩ := hns n hn
        repeat (walk_at "st")
        refine ⟨_, rfl, kint_int n, ?_⟩
        show ∃ k, V.bl (decide (0 ≤ n)) = .bl k ∧ _
        repeat (walk_at "st")
        refine ifT n0 ?_
        repeat (walk_at "st")
        rw [decide_eq_true n1]
        exact k _ (Same.refl _)
      case q2 =>
        intro D H2 s2 nD hD
        repeat (walk_at "st")
        refine w_allTrue hD ?_
        repeat (walk_at "st")
        refine ⟨_, _, rfl, .inr ⟨by walk_at "sq", ?_⟩⟩
        repeat (walk_at "st")
        have hxl : l ≠ x := ne_of hl hx (by intro z; cases z)
        refine q _ (fun b o e nb => ?_) ⟨dx, l, upd_same, (upd_ne hxl).trans ((upd_ne hxl).trans (s2 _ _ (s1 _ _ hl)))⟩
        rw [upd_ne nb, upd_ne nb]
        exact s2 _ _ (s1 _ _ e)
theorem ok_Whims_taken (T : Txt K mg a) : FnOk P w K mg base (L2.CX P w) 1 a.f_Whims_taken a.d_Whims_taken ["self"] (spWTaken a.c_Whims) := by
  refine T.F_Whims_taken.okX sc_Whims_taken (fun vs H Q E h => ?_) (fun cdv A outer s H vs Q E hr h => ?_)
  · obtain ⟨_, _, _, rfl, _⟩ := h
    rfl
  · obtain ⟨x, ns, n, rfl, ⟨dx, t, hx, ht⟩, q⟩ := h
    refine ⟨_, (pss_one (ps_ret (pe_fld (pv 0) rfl))), ?_⟩
    refine w_in (σ := [some (.ref x)]) rfl ?_
    repeat (walk_at "st")
    exact q
theorem ok_Whims_take (T : Txt K mg a) : FnOk P w K mg base (L2.CX P w) 3 a.f_Whims_take a.d_Whims_take ["self", "many"] (spWTake K a.c_Whims a.c_InvalidMany) := by
  refine T.F_Whims_take.okX sc_Whims_take (fun vs H Q E h => ?_) (fun cdv A outer s H vs Q E hr h => ?_)
  · obtain ⟨_, _, _, _, rfl, _⟩ := h
    rfl
  · obtain ⟨x, ns, n, m, rfl, ⟨dx, t, hx, ht⟩, q1, q2⟩ := h
    refine ⟨_, (pss_cons (ps_if (PW.pt (pw_or (pt_not (pt_val (pe_call (ok_is_count T) (hr.mono (by decide)) (by rfl) T.m_is_count T.F_is_count.kp T.b_is_count .nil passL (pa_cons (pv 1) pa_nil)))) (pw_or1 (pt_cmpR op_eq (pv 1) pe_int (nomark _))))) (pss_one (ps_raise rfl (takes_of rfl rfl rfl rfl) (pmk_oex T.x_InvalidMany T.xi_InvalidMany T.xt_CoreError___init__ (ok_CoreError___init__ T) (hr.mono (by decide)) T.b_CoreError___init__ .nil passL (by rfl) T.g_InvalidMany (pa_cons (pv 1) pa_nil)))) pss_nil)
      (pss_cons (ps_set (i := 2) sc_Whims_take.nd rfl (Or.inl rfl) (pe_fld (pv 0) rfl))
      (pss_cons (ps_fld (pv 0) (pe_op op_add (pv 2) pe_int) rfl)
      (pss_one (ps_ret (pe_ifExp (pt_cmpR op_lt (pv 2) (pe_callB call_len_seq (by rfl) T.z_len (by decide +kernel) (pa_cons (pe_fld (pv 0) rfl) pa_nil)) (nomark _)) (pe_op op_mod (pe_ix ix_tup (pe_fld (pv 0) rfl) (pv 2) (fun _ _ => rfl)) (pv 1)) pe_int)))))), ?_⟩
    refine w_in (σ := [some (.ref x), some (.int m), none]) rfl ?_
    repeat (walk_at "st")
    refine w_or ?_
    repeat (walk_at "st")
    refine ⟨_, rfl, kint_int m, ?_⟩
    show ∃ k, V.bl (decide (0 ≤ m)) = .bl k ∧ _
    repeat (walk_at "st")
    refine ifS' (fun h0 => ?_) (fun h0 => ?_)
    · repeat (walk_at "st")
      refine ifS (fun h => ?_) (fun h => ?_)
      · repeat (walk_at "st")
        have hm : ¬ 0 < m := by
          have e := V.int.inj h
          omega
        exact w_core T.x_InvalidMany T.xn_InvalidMany_value (q2 hm)
      · have hm : 0 < m := by
          have e : ¬ m = 0 := fun z => h (by rw [z])
          omega
        repeat (walk_at "st")
        have htx : t ≠ x := ne_of ht hx (by intro z; cases z)
        refine ifS (fun hn => ?_) (fun hn => ?_)
        · obtain ⟨k, _, e, e2⟩ := atI_ints (by omega) hn
          repeat (walk_at "st")
          have e3 : due ns n m = k % m := by
            rw [List.length_map] at hn
            unfold due
            rw [if_pos (by omega), List.getD_eq_getElem?_getD, show ns[n]? = some k from by simpa using e2]
            rfl
          rw [← e3]
          exact q1 hm _ Chg.refl.upd ⟨dx, t, upd_same, (upd_ne htx).trans ht⟩
        · repeat (walk_at "st")
          have e3 : due ns n m = 0 := by
            rw [List.length_map] at hn
            unfold due
            rw [if_neg (by omega)]
          rw [← e3]
          exact q1 hm _ Chg.refl.upd ⟨dx, t, upd_same, (upd_ne htx).trans ht⟩
    · repeat (walk_at "st")
      exact w_core T.x_InvalidMany T.xn_InvalidMany_value (q2 (by omega))
theorem ok_Whims_copy (T : Txt K mg a) : FnOk P w K mg base (L2.CX P w) 5 a.f_Whims_copy a.d_Whims_copy ["self"] (spWCopy a.c_Whims) := by
  refine T.F_Whims_copy.okX sc_Whims_copy (fun vs H Q E h => ?_) (fun cdv A outer s H vs Q E hr h => ?_)
  · obtain ⟨_, _, _, rfl, _⟩ := h
    rfl
  · obtain ⟨x, ns, n, rfl, ⟨dx, t, hx, ht⟩, hns, q⟩ := h
    refine ⟨_, (pss_cons (ps_set (i := 1) sc_Whims_copy.nd rfl (Or.inl rfl) (pe_make T.k_Whims (ok_Whims___init__ T) (hr.mono (by decide)) (by rfl) T.g_Whims T.b_Whims___init__ .nil passL (pa_cons (pe_fld (pv 0) rfl) pa_nil)))
      (pss_cons (ps_fld (pv 1) (pe_fld (pv 0) rfl) rfl)
      (pss_one (ps_ret (pv 1))))), ?_⟩
    refine w_in (σ := [some (.ref x), none]) rfl ?_
    repeat (walk_at "st")
    intro y dy ny nd ne
    refine ⟨y, dy, t, ns, rfl, upd_same, .inr (by walk_at "hl"), hns, fun H1 c1 ⟨dy', t', w1, w2⟩ => ⟨rfl, ?_⟩⟩
    repeat (walk_at "st")
    exact q y _ (same_updF (Same.made ny nd c1) ny) ny ⟨dy', t', upd_same, (upd_ne (ne_of w2 w1 (by intro z; cases z))).trans w2⟩
theorem ok__law_refused (T : Txt K mg a) : FnOk P w K mg base (L2.CX P w) 4 a.f__law_refused a.d__law_refused ["_law_whims", "_law_many"] (spRefused a.c_Whims) := by
  refine T.F__law_refused.okX sc__law_refused (fun vs H Q E h => ?_) (fun cdv A outer s H vs Q E hr h => ?_)
  · obtain ⟨_, _, _, _, rfl, _⟩ := h
    rfl
  · obtain ⟨x, ns, n, m, rfl, ⟨dx, t, hx, ht⟩, hm, q⟩ := h
    refine ⟨_, (pss_cons (ps_set (i := 2) sc__law_refused.nd rfl (Or.inl rfl) pe_bl)
      (pss_cons (ps_try_only rfl rfl ⟨rfl, by decide, .inl T.g_InvalidMany⟩ takes0 (fun W pn xe tk _ => (pss_one (ps_expr (pe_methSx (pv 0) T.c_Whims T.M_Whims_take (ok_Whims_take T) (hr.mono (by decide)) T.b_Whims_take (fun σ => passAt tk σ) (pa_cons (pv 1) pa_nil))))) (fun a oe cls d pn _ _ => (pss_one (ps_set (i := 2) sc__law_refused.nd rfl (Or.inl rfl) pe_bl))))
      (pss_one (ps_ret (pv 2))))), ?_⟩
    refine w_in (σ := [some (.ref x), some (.int m), none]) rfl ?_
    repeat (walk_at "st")
    refine ⟨x, ns, n, m, rfl, ⟨dx, t, hx, ht⟩, fun z => absurd z hm, fun _ d H' s _ _ => w_only T.xe_InvalidMany fun a' na => ?_⟩
    repeat (walk_at "st")
    exact q _ s
--P2E
theorem ok_law (T : Txt K mg a) : FnOk P w K mg base (L2.CX P w) 8 a.f_law a.d_law ["_law_script"] (sp_law K) := by
  refine T.F_law.okX sc_law (fun vs H Q E h => ?_) (fun cdv A outer s H vs Q E hr h => ?_)
  · obtain ⟨_, _, rfl, _⟩ := h
    rfl
  · obtain ⟨sa, ss, rfl, hS, hss, q⟩ := h
    refine ⟨_, (pss_cons (ps_set (i := 1) sc_law.nd rfl (Or.inl rfl) (pe_call (ok__law_pot T) (hr.mono (by decide)) (by rfl) T.m__law_pot T.F__law_pot.kp T.b__law_pot .nil passL (pa_cons (pv 0) (pa_cons pe_int pa_nil))))
      (pss_cons (ps_set (i := 2) sc_law.nd rfl (Or.inl rfl) (pe_lst pa_nil))
      (pss_cons (ps_for (passes_of rfl) rfl (pi_range1 (by rfl) T.z_range (pa_cons (pe_call (ok__law_draw T) (hr.mono (by decide)) (by rfl) T.m__law_draw T.F__law_draw.kp T.b__law_draw .nil passL (pa_cons (pv 1) (pa_cons pe_int pa_nil))) pa_nil)) (pg_name (i := 3) sc_law.nd rfl (Or.inl rfl))
      (pss_one (ps_expr (pe_bm PySem.F.plainAttrs_list PySem.F.slot_list_append PySem.F.type_list_append mt_append (pv 2) (pa_cons (pe_call (ok__law_pick T) (hr.mono (by decide)) (by rfl) T.m__law_pick T.F__law_pick.kp T.b__law_pick .nil passL (pa_cons (pv 1) (pa_cons (pe_lst (pa_cons pe_int (pa_cons pe_int (pa_cons pe_int (pa_cons pe_int (pa_cons pe_int (pa_cons pe_int (pa_cons (pe_call (ok__law_draw T) (hr.mono (by decide)) (by rfl) T.m__law_draw T.F__law_draw.kp T.b__law_draw .nil passL (pa_cons (pv 1) (pa_cons pe_int pa_nil))) pa_nil)))))))) pa_nil))) pa_nil)))))
      (pss_cons (ps_set (i := 4) sc_law.nd rfl (Or.inl rfl) (pe_callTy call_list_of (by rfl) T.z_list (by decide +kernel) (pa_cons (pv 2) pa_nil)))
      (pss_cons (ps_par (i := 5) (j := 6) rfl sc_law.nd rfl rfl (by decide) rfl rfl (pa_cons (pe_make T.k_Whims (ok_Whims___init__ T) (hr.mono (by decide)) (by rfl) T.g_Whims T.b_Whims___init__ .nil passL (pa_cons (pv 4) pa_nil)) (pa_cons (pe_lst pa_nil) pa_nil)) (by rfl))
      (pss_cons (ps_expr (pe_bm PySem.F.plainAttrs_list PySem.F.slot_list_append PySem.F.type_list_append mt_append (pv 4) (pa_cons pe_int pa_nil)))
      (pss_cons (ps_par (i := 7) (j := 8) rfl sc_law.nd rfl rfl (by decide) rfl rfl (pa_cons (pe_lst (pa_cons (pe_tup (pa_cons (pv 5) (pa_cons pe_int (pa_cons (pe_lst pa_nil) pa_nil)))) pa_nil)) (pa_cons pe_int pa_nil)) (by rfl))
      (pss_cons (ps_for (passes_of rfl) rfl (pi_range1 (by rfl) T.z_range (pa_cons pe_int pa_nil)) (pg_name (i := 3) sc_law.nd rfl (Or.inl rfl))
      (pss_cons (ps_set (i := 9) sc_law.nd rfl (Or.inl rfl) (pe_call (ok__law_draw T) (hr.mono (by decide)) (by rfl) T.m__law_draw T.F__law_draw.kp T.b__law_draw .nil passL (pa_cons (pv 1) (pa_cons (pe_callB call_len_seq (by rfl) T.z_len (by decide +kernel) (pa_cons (pv 7) pa_nil)) pa_nil))))
      (pss_cons (ps_asg (pe_ix ix_list (pv 7) (pv 9) (fun _ _ => rfl)) (pg_tup rfl (pgs_cons (pg_name (i := 10) sc_law.nd rfl (Or.inl rfl)) (pgs_cons (pg_name (i := 8) sc_law.nd rfl (Or.inl rfl)) (pgs_cons (pg_name (i := 11) sc_law.nd rfl (Or.inl rfl)) pgs_nil)))))
      (pss_cons (ps_set (i := 12) sc_law.nd rfl (Or.inl rfl) (pe_call (ok__law_draw T) (hr.mono (by decide)) (by rfl) T.m__law_draw T.F__law_draw.kp T.b__law_draw .nil passL (pa_cons (pv 1) (pa_cons pe_int pa_nil))))
      (pss_one (ps_if (PW.pt (pw_and (pt_cmpR op_eq (pv 12) pe_int (nomark _)) (pw_and1 (pt_cmpR op_lt (pe_callB call_len_seq (by rfl) T.z_len (by decide +kernel) (pa_cons (pv 7) pa_nil)) pe_int (nomark _))))) (pss_one (ps_expr (pe_bm PySem.F.plainAttrs_list PySem.F.slot_list_append PySem.F.type_list_append mt_append (pv 7) (pa_cons (pe_tup (pa_cons (pe_meth0 (pv 10) T.c_Whims T.M_Whims_copy (ok_Whims_copy T) (hr.mono (by decide)) T.b_Whims_copy .nil passL) (pa_cons (pv 8) (pa_cons (pe_callTy call_list_of (by rfl) T.z_list (by decide +kernel) (pa_cons (pv 11) pa_nil)) pa_nil)))) pa_nil)))) (pss_one (ps_if (pt_cmpR op_eq (pv 12) pe_int (nomark _)) (pss_one (ps_if (PW.pt (pw_or (pt_not (pt_val (pe_call (ok__law_refused T) (hr.mono (by decide)) (by rfl) T.m__law_refused T.F__law_refused.kp T.b__law_refused .nil passL (pa_cons (pv 10) (pa_cons pe_int pa_nil))))) (pw_or1 (pt_cmpR op_ne (pe_prop (pv 10) T.c_Whims T.p_Whims_taken (ok_Whims_taken T) (hr.mono (by decide)) T.b_Whims_taken .nil passL rfl) (pv 8) (nomark _))))) (pss_one (ps_ret pe_bl)) pss_nil)) (pss_cons (ps_set (i := 13) sc_law.nd rfl (Or.inl rfl) (pe_call (ok__law_pick T) (hr.mono (by decide)) (by rfl) T.m__law_pick T.F__law_pick.kp T.b__law_pick .nil passL (pa_cons (pv 1) (pa_cons (pe_lst (pa_cons pe_int (pa_cons pe_int (pa_cons pe_int (pa_cons pe_int (pa_cons pe_int (pa_cons pe_int (pa_cons pe_int pa_nil)))))))) pa_nil))))
      (pss_cons (ps_set (i := 14) sc_law.nd rfl (Or.inl rfl) (pe_meth (pv 10) T.c_Whims T.M_Whims_take (ok_Whims_take T) (hr.mono (by decide)) T.b_Whims_take .nil passL (pa_cons (pv 13) pa_nil)))
      (pss_cons (ps_if (PW.pt (pw_or (pt_cmpR op_ne (pv 14) (pe_call (ok__law_due T) (hr.mono (by decide)) (by rfl) T.m__law_due T.F__law_due.kp T.b__law_due .nil passL (pa_cons (pv 2) (pa_cons (pv 8) (pa_cons (pv 13) pa_nil)))) (nomark _)) (pw_or1 (pt_cmpR op_ne (pe_prop (pv 10) T.c_Whims T.p_Whims_taken (ok_Whims_taken T) (hr.mono (by decide)) T.b_Whims_taken .nil passL rfl) (pe_op op_add (pv 8) pe_int) (nomark _))))) (pss_one (ps_ret pe_bl)) pss_nil)
      (pss_one (ps_asg (pe_tup (pa_cons (pv 10) (pa_cons (pe_op op_add (pv 8) pe_int) (pa_cons (pe_op op_cat (pv 11) (pe_lst (pa_cons (pe_tup (pa_cons (pv 13) (pa_cons (pv 14) pa_nil))) pa_nil))) pa_nil)))) (pg_sub (pv 7) (pv 9) set_list))))))))))))))
      (pss_cons (ps_for (passes_of rfl) rfl (pi_list (pv 7)) (pg_tup rfl (pgs_cons (pg_name (i := 10) sc_law.nd rfl (Or.inl rfl)) (pgs_cons (pg_name (i := 8) sc_law.nd rfl (Or.inl rfl)) (pgs_cons (pg_name (i := 11) sc_law.nd rfl (Or.inl rfl)) pgs_nil))))
      (pss_cons (ps_set (i := 15) sc_law.nd rfl (Or.inr rfl) (pe_make T.k_Whims (ok_Whims___init__ T) (hr.mono (by decide)) (by rfl) T.g_Whims T.b_Whims___init__ .nil passL (pa_cons (pe_callTy call_tuple_of (by rfl) T.z_tuple (by decide +kernel) (pa_cons (pv 2) pa_nil)) pa_nil)))
      (pss_cons (ps_setLc (i := 6) (own := [("_law_many", 13), ("_law_found", 14)]) (g := (gTup K 2 (gCons (gName 13) (gCons (gName 14) gNil)))) (tt := tYes) rfl sc_law.nd rfl rfl (sw_true rfl rfl rfl (by decide +kernel)) (pi_list (pv 11)) (blkOk_by (N := ["_law_script", "_law_pot_here", "_law_numbers", "_law_turn", "_law_handed", "_law_whims", "_law_rows", "_law_held", "_law_at", "_law_place", "_law_some", "_law_told", "_law_way", "_law_many", "_law_found", "_law_again"]) (sc := defScope s_law) (by decide +kernel)) (fun _ _ _ _ _ => by exact (pg_tup rfl (pgs_cons (pg_name (i := 13) sc_law.nd rfl (Or.inl rfl)) (pgs_cons (pg_name (i := 14) sc_law.nd rfl (Or.inl rfl)) pgs_nil)))) (fun _ _ _ _ _ => pts_nil) (fun _ _ _ _ _ => (pe_tup (pa_cons (pv 13) (pa_cons (pe_methN0 (pv 15) T.c_Whims T.M_Whims_take (ok_Whims_take T) (hr.mono (by decide)) T.kb_Whims_take_1_many passL  (pk_cons (pv 13) pk_nil)) pa_nil)))))
      (pss_one (ps_if (PW.pt (pw_or (pt_cmpR op_ne (pe_prop (pv 10) T.c_Whims T.p_Whims_taken (ok_Whims_taken T) (hr.mono (by decide)) T.b_Whims_taken .nil passL rfl) (pv 8) (nomark _)) (pw_or (pt_cmpR (op_neD hr.units) (pv 6) (pv 11) (nomark _)) (pw_or1 (pt_cmpR op_ne (pe_prop (pv 15) T.c_Whims T.p_Whims_taken (ok_Whims_taken T) (hr.mono (by decide)) T.b_Whims_taken .nil passL rfl) (pv 8) (nomark _)))))) (pss_one (ps_ret pe_bl)) pss_nil)))))
      (pss_one (ps_ret (pe_and (pe_cmpR op_eq (pe_meth (pe_meth0 (pv 5) T.c_Whims T.M_Whims_copy (ok_Whims_copy T) (hr.mono (by decide)) T.b_Whims_copy .nil passL) T.c_Whims T.M_Whims_take (ok_Whims_take T) (hr.mono (by decide)) T.b_Whims_take .nil passL (pa_cons pe_int pa_nil)) (pe_call (ok__law_due T) (hr.mono (by decide)) (by rfl) T.m__law_due T.F__law_due.kp T.b__law_due .nil passL (pa_cons (pv 2) (pa_cons (pe_ix ix_tup (pe_ix ix_list (pv 7) pe_int (fun _ _ => rfl)) pe_int (fun _ _ => rfl)) (pa_cons pe_int pa_nil)))) (nomark _)) (pe_one (pe_cmpR op_eq (pe_prop (pv 5) T.c_Whims T.p_Whims_taken (ok_Whims_taken T) (hr.mono (by decide)) T.b_Whims_taken .nil passL rfl) (pe_ix ix_tup (pe_ix ix_list (pv 7) pe_int (fun _ _ => rfl)) pe_int (fun _ _ => rfl)) (nomark _))))))))))))))), ?_⟩
    refine w_in (σ := [some (.ref sa), none, none, none, none, none, none, none, none, none, none, none, none, none, none, none]) rfl ?_
    repeat (walk_at "st")
    refine ⟨sa, ss, 0, rfl, hS, by decide, by decide, fun p H1 s1 np hp => ?_⟩
    repeat (walk_at "st")
    intro nl nn
    have hpl : p ≠ nl := hp.ne nn
    repeat (walk_at "st")
    refine ⟨p, 9, rfl, hp.new nn, by decide, by decide, fun d H3 c3 hp3 d0 d9 => ?_⟩
    repeat (walk_at "st")
    refine w_range1 (fun i σ H' => ∃ (ns : List Int) (v3 : Option V), σ = [some (.ref sa), some (.ref p), some (.ref nl), v3, none, none, none, none, none, none, none, none, none, none, none, none] ∧ Pot H' p ∧ H' nl = some (.lst (ns.map V.int)) ∧ ns.length = i ∧ ∀ n ∈ ns, 0 ≤ n ∧ n ≤ 1000000)
      ⟨by omega, by omega⟩ ⟨[], none, rfl, hp3, c3 _ _ upd_same hpl.symm, rfl, by simp⟩ (fun i σ H' hi ⟨ns, v3, e, hp', hl', hlen, hall⟩ => ?_) (fun σ H' ⟨ns, v3, e, hp', hl', hlen, hall⟩ => ?_)
    · subst e
      repeat (walk_at "st")
      refine ⟨p, 100, rfl, hp', by decide, by decide, fun d2 H4 c4 hp4 d20 d21 => ?_⟩
      repeat (walk_at "st")
      intro q nq
      have hpq : p ≠ q := hp4.ne nq
      repeat (walk_at "st")
      refine ⟨p, q, _, rfl, hp4.new nq, SqL.of upd_same, hpq.symm, fun H5 c5 => SqL.of (c5 _ _ upd_same hpq.symm), Nat.le_of_ble_eq_true rfl, Nat.le_of_ble_eq_true rfl, fun v H5 c5 hp5 hv => ?_⟩
      obtain ⟨k, rfl, k0, k1⟩ : ∃ k : Int, v = .int k ∧ 0 ≤ k ∧ k ≤ 1000000 := by
        simp only [List.mem_cons, List.not_mem_nil, or_false] at hv
        rcases hv with h | h | h | h | h | h | h <;> exact ⟨_, h, by omega, by omega⟩
      repeat (walk_at "st")
      refine ⟨ns ++ [k], _, rfl, hp5.upd hpl, ?_, by simp [hlen], ?_⟩
      · rw [upd_same, List.map_append]
        rfl
      · intro n hn
        rcases List.mem_append.mp hn with h | h
        · exact hall n h
        · rw [List.mem_singleton.mp h]
          exact ⟨k0, k1⟩
    · subst e
      have hlen8 : ns.length ≤ 8 := by omega
      repeat (walk_at "st")
      intro h nh
      have hph : p ≠ h := hp'.ne nh
      have hlh : nl ≠ h := ne_of_none hl' nh
      repeat (walk_at "st")
      intro w0 dx0 nw nd new
      refine ⟨w0, dx0, h, ns, rfl, upd_same, .inl (by walk_at "hl"), ⟨by omega, hall⟩, fun H7 c7 wa => ⟨rfl, ?_⟩⟩
      have s7 : Same (upd H' h (.lst (ns.map V.int))) H7 := Same.made nw nd c7
      have hl7 : H7 nl = some (.lst (ns.map V.int)) := s7 _ _ ((upd_ne hlh).trans hl')
      have hp7 : Pot H7 p := (hp'.new nh).same s7
      have hh7 : H7 h = some (.lst (ns.map V.int)) := s7 _ _ upd_same
      obtain ⟨px, py, hpx, hpr⟩ := id hp7
      obtain ⟨dxw, tw, hw7, ht7⟩ := wa
      have npw : p ≠ w0 := ne_of hpx hw7 (by intro z; cases z)
      repeat (walk_at "st")
      intro rl nrl
      repeat (walk_at "st")
      intro l0 nl0
      repeat (walk_at "st")
      intro tu ntu
      repeat (walk_at "st")
      intro hd nhd
      have nh0 : l0 ≠ h := fun z => by rw [z, upd_same] at nl0; cases nl0
      have nh1 : tu ≠ l0 := fun z => by rw [z, upd_same] at ntu; cases ntu
      have nh2 : hd ≠ tu := fun z => by rw [z, upd_same] at nhd; cases nhd
      rw [upd_ne nh0] at nl0
      rw [upd_ne nh1] at ntu
      have nh3 : tu ≠ h := fun z => by rw [z, upd_same] at ntu; cases ntu
      rw [upd_ne nh3] at ntu
      rw [upd_ne nh2] at nhd
      have nh4 : hd ≠ l0 := fun z => by rw [z, upd_same] at nhd; cases nhd
      rw [upd_ne nh4] at nhd
      have nh5 : hd ≠ h := fun z => by rw [z, upd_same] at nhd; cases nhd
      rw [upd_ne nh5] at nhd
      have old : ∀ b o, H7 b = some o → b ≠ h → (b ≠ rl ∧ b ≠ l0 ∧ b ≠ tu ∧ b ≠ hd) ∧ (upd (upd (upd (upd (upd H7 rl (.lst [])) h (.lst (ns.map V.int ++ [.int 5]))) l0 (.lst [])) tu (.tup [.ref w0, .int 0, .ref l0])) hd (.lst [.ref tu])) b = some o := fun b o e nb => by
        have e1 : upd H7 rl (.lst []) b = some o := (same_new nrl) b o e
        have z1 := ne_of_none e nrl
        have z2 := ne_of_none e1 nl0
        have z3 := ne_of_none e1 ntu
        have z4 := ne_of_none e1 nhd
        exact ⟨⟨z1, z2, z3, z4⟩, by rw [upd_ne z4, upd_ne z3, upd_ne z2, upd_ne nb]; exact e1⟩
      have nph : p ≠ h := hph
      have nwh : w0 ≠ h := ne_of hw7 hh7 (by intro z; cases z)
      have nth : tw ≠ h := ne_of ht7 hh7 (by intro z; cases z)
      obtain ⟨⟨op1, op2, op3, op4⟩, op⟩ := old p _ hpx nph
      obtain ⟨⟨ow1, ow2, ow3, ow4⟩, ow⟩ := old w0 _ hw7 nwh
      obtain ⟨⟨on1, on2, on3, on4⟩, on⟩ := old nl _ hl7 hlh
      obtain ⟨_, ot⟩ := old tw _ ht7 nth
      have nlp : nl ≠ p := hpl.symm
      have nlw : nl ≠ w0 := ne_of hl7 hw7 (by intro z; cases z)
      repeat (walk_at "st")
      refine w_range1 (fun i σ H' => ∃ (G : Hp) (es : List Ent) (v3 v4 v6 v8 v9 v10 v11 v12 v13 v14 v15 : Option V), σ = [some (.ref sa), some (.ref p), some (.ref nl), v3, v4, some (.ref w0), v6, some (.ref hd), v8, v9, v10, v11, v12, v13, v14, v15] ∧ Held a.c_Whims ns G H' p nl hd w0 es i)
        (by decide) ⟨_, [(tu, w0, [])], _, _, _, _, _, _, _, _, _, _, _, rfl, ⟨cut_same (bs := [p, hd, w0]), cut_none (by simp), cut_none (by simp), op4, ⟨px, py, op, hpr⟩, (cut_some (by simp [nlp, on4, nlw])).trans on, ⟨by omega, hall⟩, upd_same, by simp, by simp, by simp, ?_, by simp, ⟨_, _, rfl⟩⟩⟩ (fun i σ H' hi ⟨G, es, v3, v4, v6, v8, v9, v10, v11, v12, v13, v14, v15, e, I⟩ => ?_) (fun σ H' ⟨G, es, v3, v4, v6, v8, v9, v10, v11, v12, v13, v14, v15, e, I⟩ => ?_)
      · intro e he
        rw [List.mem_singleton.mp he]
        refine ⟨l0, (cut_some (by simp [op3.symm, nh2.symm, ow3.symm])).trans ((upd_ne nh2.symm).trans upd_same), cut_none (by simp), ⟨dxw, tw, ow, ot⟩, ⟨[], (cut_some (by simp [op2.symm, nh4.symm, ow2.symm])).trans ((upd_ne nh4.symm).trans ((upd_ne nh1.symm).trans upd_same)), rfl, fun i r m f a b => by cases a⟩, fun i m f b => by cases b⟩
      · subst e
        obtain ⟨sub, gp, gh, nph', pot, num, nok, hld, l1, l4, nd, ok, sz, ⟨tu0, ps0, he0⟩⟩ := id I
        repeat (walk_at "st")
        refine ⟨p, _, rfl, pot, by rw [List.length_map]; omega, by rw [List.length_map]; omega, fun d1 H1' c1 hp1 d10 d11 => ?_⟩
        have hd1 := c1 _ _ hld nph'.symm
        obtain ⟨en, hen, hin, e1⟩ := ent_at d10 d11
        obtain ⟨l, t1, t2, t3, t4, t5⟩ := ok en hin
        have sub1 : Same G H1' := sub_chg sub gp c1
        have ht := sub1 _ _ t1
        repeat (walk_at "st")
        refine ⟨p, 8, rfl, hp1, by decide, by decide, fun d2 H2 c2 hp2 d20 d21 => ?_⟩
        have hd2 := c2 _ _ hd1 nph'.symm
        have sub2 : Same G H2 := sub_chg sub1 gp c2
        have c12 : Chg p H' H2 := c1.trans c2
        have pnt : ∀ xs, H' p ≠ some (.tup xs) := pot.ntup
        have I2 : Held a.c_Whims ns G H2 p nl hd w0 es i := ⟨sub2, gp, gh, nph', hp2, num, nok, hd2, l1, l4, nd, fun e he => (ok e he).step (Same.refl _) (ok e he).choose_spec.2.1 fun z => z.chg c12 (z.ne_pot pot) pnt, sz, ⟨tu0, ps0, he0⟩⟩
        clear I sub gp gh nph' pot num hld l1 l4 nd ok sz he0 tu0 ps0 t2 t3 t4 t5 ht
        obtain ⟨sub, gp, gh, nph', pot, num, nok, hld, l1, l4, nd, ok, sz, ⟨tu0, ps0, he0⟩⟩ := id I2
        obtain ⟨l', t1', t2, t3, t4, t5⟩ := ok en hin
        obtain rfl : l = l' := V.ref.inj (tup3_inj (t1.symm.trans t1'))
        repeat (walk_at "st")
        refine w_andP (b1 := decide (d2 = 0)) (b2 := decide ((es.length : Int) < 4)) (fun R r => ?_) (fun R r => ?_) ?_
        · repeat (walk_at "st")
          rw [dec_vint]
          exact r
        · repeat (walk_at "st")
          rw [List.length_map]
          exact r
        refine ifB (fun hb => ?_) (fun hb => ?_)
        · have hl4 : es.length < 4 := by
            simp only [Bool.and_eq_true, decide_eq_true_eq] at hb
            omega
          obtain ⟨dxe, te, he1, he2⟩ := id t3
          obtain ⟨rs, g1, g2, g3⟩ := id t4
          repeat (walk_at "st")
          refine ⟨en.2.1, ns, _, rfl, t3, nok, fun y H3 s3 ny wy => ?_⟩
          have hl3 : H3 l = some (.lst (rs.map V.ref)) := s3 _ _ (sub _ _ g1)
          have hd3 := s3 _ _ hld
          repeat (walk_at "st")
          intro l2 nl2
          repeat (walk_at "st")
          intro tu2 ntu2
          have n1 : tu2 ≠ l2 := fun z => by rw [z, upd_same] at ntu2; cases ntu2
          have ntu3 : H3 tu2 = none := by
            rw [upd_ne n1] at ntu2
            exact ntu2
          have n2 : hd ≠ l2 := ne_of_none hd3 nl2
          have n3 : hd ≠ tu2 := ne_of_none hd3 ntu3
          have hdf : upd (upd H3 l2 (.lst (rs.map V.ref))) tu2 (.tup [.ref y, .int en.2.2.length, .ref l2]) hd = some (.lst (es.map fun e => V.ref e.1)) := (upd_ne n3).trans ((upd_ne n2).trans hd3)
          have hz : (es.map fun e => V.ref e.1).length ≤ 100000 := by rw [List.length_map]; omega
          repeat (walk_at "st")
          have sG : Same G H3 := sub.trans s3
          have gl2 : G l2 = none := sG.free nl2
          have gtu2 : G tu2 = none := sG.free ntu3
          have gy : G y = none := sub.free ny
          have gg1 : Same G (upd G l2 (.lst (rs.map V.ref))) := same_grow gl2
          have gg2 : upd G l2 (.lst (rs.map V.ref)) tu2 = none := none_upd gtu2 n1
          have gg : Same G (upd (upd G l2 (.lst (rs.map V.ref))) tu2 (.tup [.ref y, .int en.2.2.length, .ref l2])) := gg1.trans (same_grow gg2)
          obtain ⟨dxy, ty, wy1, wy2⟩ := id wy
          have yl2 : y ≠ l2 := ne_of_none wy1 nl2
          have ytu2 : y ≠ tu2 := ne_of_none wy1 ntu3
          have pl2 : p ≠ l2 := (pot.same s3).ne nl2
          have ptu2 : p ≠ tu2 := (pot.same s3).ne ntu3
          have tr : ∀ {w ns n}, WhAt a.c_Whims H3 w ns n → WhAt a.c_Whims (upd (upd (upd H3 l2 (.lst (rs.map V.ref))) tu2 (.tup [.ref y, .int en.2.2.length, .ref l2])) hd (.lst ((es.map fun e => V.ref e.1) ++ [.ref tu2]))) w ns n :=
            fun z => ((z.same (same_new nl2)).same (same_new ntu2)).updL hdf
          refine ⟨_, es ++ [(tu2, y, en.2.2)], _, _, _, _, _, _, _, _, _, _, _, rfl, ⟨?_, none_upd (none_upd gp pl2) ptu2, none_upd (none_upd gh n2) n3, nph', ((pot.same s3).new nl2 |>.new ntu2).upd nph', gg _ _ num, nok, ?_, by simp, by simp; omega, ?_, ?_, ?_, ?_⟩⟩
          · refine sub_upd (sub_grow (sub_grow (o := .lst (rs.map V.ref)) ?_ ?_) upd_same) (none_upd (none_upd gh n2) n3)
            · exact (sG.trans (same_new nl2)).trans (same_new ntu2)
            · exact (upd_ne n1.symm).trans upd_same
          · rw [upd_same, List.map_append]
            rfl
          · rw [List.map_append]
            refine List.nodup_append.mpr ⟨nd, by simp, ?_⟩
            intro w hw w' hw'
            obtain ⟨e, he, rfl⟩ := List.mem_map.mp hw
            obtain ⟨_, _, _, ⟨dxx, tx, q1, _⟩, _⟩ := ok e he
            rw [List.mem_singleton.mp hw']
            exact ne_of_none q1 ny
          · intro e he
            rcases List.mem_append.mp he with h | h
            · have oke := ok e h
              obtain ⟨_, _, ge, we, _⟩ := id oke
              obtain ⟨dxx, tx, q1, _⟩ := id we
              exact oke.step gg (none_upd (none_upd ge (ne_of_none (s3 _ _ q1) nl2)) (ne_of_none (s3 _ _ q1) ntu3)) fun z => tr (z.same s3)
            · rw [List.mem_singleton.mp h]
              exact ⟨l2, upd_same, none_upd (none_upd gy yl2) ytu2, tr wy, ⟨rs, (upd_ne n1.symm).trans upd_same, g2, fun i r m f a b => gg _ _ (g3 i r m f a b)⟩, t5⟩
          · intro e he
            rcases List.mem_append.mp he with h | h
            · exact Nat.le_succ_of_le (sz e h)
            · rw [List.mem_singleton.mp h]
              exact Nat.le_succ_of_le (sz en hin)
          · exact ⟨tu0, ps0, by rw [List.getElem?_append_left (by omega)]; exact he0⟩
        · repeat (walk_at "st")
          refine ifS (fun hw1 => ?_) (fun hw1 => ?_)
          · refine w_or ?_
            obtain ⟨dxe, te, he1, he2⟩ := id t3
            repeat (walk_at "st")
            refine ⟨en.2.1, ns, _, 0, rfl, t3, by decide, fun H3 s3 => ?_⟩
            have he3 := s3 _ _ he1
            repeat (walk_at "st")
            refine ⟨en.2.1, ns, _, rfl, t3.same s3, ?_⟩
            repeat (walk_at "st")
            refine ifT' rfl ?_
            repeat (walk_at "st")
            exact ⟨G, es, _, _, _, _, _, _, _, _, _, _, _, rfl, I2.same s3 (Nat.le_succ i)⟩
          · have nl7 : ∀ q, H2 q = none → p ≠ q := fun q h => pot.ne h
            repeat (walk_at "st")
            intro q nq
            have hpq : p ≠ q := pot.ne nq
            repeat (walk_at "st")
            refine ⟨p, q, _, rfl, pot.new nq, SqL.of upd_same, hpq.symm, fun H5 c5 => SqL.of (c5 _ _ upd_same hpq.symm), Nat.le_of_ble_eq_true rfl, Nat.le_of_ble_eq_true rfl, fun v H3 c3' hp3' hv => ?_⟩
            obtain ⟨m, rfl, hm⟩ : ∃ m : Int, v = .int m ∧ 0 < m := by
              simp only [List.mem_cons, List.not_mem_nil, or_false] at hv
              rcases hv with h | h | h | h | h | h | h <;> exact ⟨_, h, by omega⟩
            have I3 : Held a.c_Whims ns G H3 p nl hd w0 es i := (I2.same (same_new nq) (Nat.le_refl i)).pot_chg c3' hp3'
            clear sub gp gh nph' pot num hld l1 l4 nd ok sz he0 tu0 ps0 t1' t2 t3 t4 t5
            obtain ⟨sub, gp, gh, nph', pot, num, nok, hld, l1, l4, nd, ok, sz, ⟨tu0, ps0, he0⟩⟩ := id I3
            obtain ⟨l', t1', t2, t3, t4, t5⟩ := ok en hin
            obtain rfl : l = l' := V.ref.inj (tup3_inj (t1.symm.trans t1'))
            obtain ⟨dxe, te, he1, he2⟩ := id t3
            repeat (walk_at "st")
            refine ⟨en.2.1, ns, _, m, rfl, t3, fun _ H4 c4 w4 => ?_, fun z => absurd hm z⟩
            have wnt : ∀ xs, H3 en.2.1 ≠ some (.tup xs) := fun xs z => by rw [he1] at z; cases z
            have nwp : en.2.1 ≠ p := t3.ne_pot pot
            have nwh : en.2.1 ≠ hd := ne_of he1 hld (by intro z; cases z)
            have sub4 : Same G H4 := sub_chg sub t2 c4
            have hd4 := c4 _ _ hld nwh.symm
            have pot4 := pot.chg c4 nwp.symm
            have num4 := sub4 _ _ num
            refine w_or ?_
            repeat (walk_at "st")
            refine ⟨nl, ns, _, m, rfl, SqL.of num4, hm, ?_⟩
            repeat (walk_at "st")
            refine ifT' rfl ?_
            obtain ⟨dx4, te4, he41, he42⟩ := id w4
            repeat (walk_at "st")
            refine ⟨en.2.1, ns, _, rfl, w4, ?_⟩
            repeat (walk_at "st")
            refine ifT' (congrArg V.int (by omega)) ?_
            repeat (walk_at "st")
            obtain ⟨rs, g1, g2, g3⟩ := id t4
            have hl4' : H4 l = some (.lst (rs.map V.ref)) := sub4 _ _ g1
            have hszr : rs.length ≤ 20 := by
              have := sz en hin
              omega
            intro r1 nr1
            repeat (walk_at "st")
            intro q1 nq1
            repeat (walk_at "st")
            have nq1r : q1 ≠ r1 := fun z => by rw [z, upd_same] at nq1; cases nq1
            have lq1 : upd (upd H4 r1 (.tup [.int m, .int (due ns en.2.2.length m)])) q1 (.lst [.ref r1]) l = some (.lst (rs.map V.ref)) := (same_new nq1) _ _ ((same_new nr1) _ _ hl4')
            intro l3 nl3
            repeat (walk_at "st")
            intro tu3 ntu3
            have nl3q : l3 ≠ q1 := fun z => by rw [z, upd_same] at nl3; cases nl3
            rw [upd_ne nl3q] at nl3
            have nl3r : l3 ≠ r1 := fun z => by rw [z, upd_same] at nl3; cases nl3
            rw [upd_ne nl3r] at nl3
            have ntul : tu3 ≠ l3 := fun z => by rw [z, upd_same] at ntu3; cases ntu3
            rw [upd_ne ntul] at ntu3
            have ntuq : tu3 ≠ q1 := fun z => by rw [z, upd_same] at ntu3; cases ntu3
            rw [upd_ne ntuq] at ntu3
            have ntur : tu3 ≠ r1 := fun z => by rw [z, upd_same] at ntu3; cases ntu3
            rw [upd_ne ntur] at ntu3
            rw [upd_ne nq1r] at nq1
            have up4 : ∀ b o, H4 b = some o → upd (upd (upd (upd H4 r1 (.tup [.int m, .int (due ns en.2.2.length m)])) q1 (.lst [.ref r1])) l3 (.lst (rs.map V.ref ++ [.ref r1]))) tu3 (.tup [.ref en.2.1, .int (en.2.2.length + 1), .ref l3]) b = some o := fun b o e => by
              rw [upd_ne (ne_of_none e ntu3), upd_ne (ne_of_none e nl3), upd_ne (ne_of_none e nq1), upd_ne (ne_of_none e nr1)]
              exact e
            have hdt := up4 _ _ hd4
            have hix : ixN (es.map fun e => V.ref e.1).length d1 = some d1.toNat := ixN_of d10 (by rw [List.length_map] at d11 ⊢; exact d11)
            repeat (walk_at "st")
            have sG4 : Same G H4 := sub4
            have gr1 : G r1 = none := sG4.free nr1
            have gl3 : G l3 = none := sG4.free nl3
            have gtu : G tu3 = none := sG4.free ntu3
            have ga2 : upd G r1 (.tup [.int m, .int (due ns en.2.2.length m)]) l3 = none := none_upd gl3 nl3r
            have ga3 : upd (upd G r1 (.tup [.int m, .int (due ns en.2.2.length m)])) l3 (.lst (rs.map V.ref ++ [.ref r1])) tu3 = none := none_upd (none_upd gtu ntur) ntul
            have gg : Same G (upd (upd (upd G r1 (.tup [.int m, .int (due ns en.2.2.length m)])) l3 (.lst (rs.map V.ref ++ [.ref r1]))) tu3 (.tup [.ref en.2.1, .int (en.2.2.length + 1), .ref l3])) :=
              ((same_grow gr1).trans (same_grow ga2)).trans (same_grow ga3)
            have alive : ∀ {b o}, H4 b = some o → G b = none → upd (upd (upd G r1 (.tup [.int m, .int (due ns en.2.2.length m)])) l3 (.lst (rs.map V.ref ++ [.ref r1]))) tu3 (.tup [.ref en.2.1, .int (en.2.2.length + 1), .ref l3]) b = none := fun e g =>
              none_upd (none_upd (none_upd g (ne_of_none e nr1)) (ne_of_none e nl3)) (ne_of_none e ntu3)
            have tr : ∀ {w n}, WhAt a.c_Whims H4 w ns n → WhAt a.c_Whims (upd (upd (upd (upd (upd H4 r1 (.tup [.int m, .int (due ns en.2.2.length m)])) q1 (.lst [.ref r1])) l3 (.lst (rs.map V.ref ++ [.ref r1]))) tu3 (.tup [.ref en.2.1, .int (en.2.2.length + 1), .ref l3])) hd (.lst ((es.map fun e => V.ref e.1).set d1.toNat (.ref tu3)))) w ns n :=
              fun z => (z.same up4).updL hdt
            have hmap : (es.map fun e => V.ref e.1).set d1.toNat (.ref tu3) = (es.set d1.toNat (tu3, en.2.1, en.2.2 ++ [(m, due ns en.2.2.length m)])).map fun e => V.ref e.1 := by
              rw [List.map_set]
            have hw : (es.set d1.toNat (tu3, en.2.1, en.2.2 ++ [(m, due ns en.2.2.length m)])).map (fun e => e.2.1) = es.map fun e => e.2.1 := by
              rw [List.map_set]
              refine List.ext_getElem? fun k => ?_
              rw [List.getElem?_set]
              split
              · rename_i hk
                subst hk
                rw [List.getElem?_map, hen]
                split
                · rfl
                · rename_i hz
                  rw [List.length_map] at hz
                  exact absurd (List.getElem?_eq_some_iff.mp hen).1 hz
              · rfl
            obtain ⟨px4, py4, hp41, hp42⟩ := id pot4
            have hcast : ((en.2.2 ++ [(m, due ns en.2.2.length m)]).length : Int) = en.2.2.length + 1 := by simp
            refine ⟨_, es.set d1.toNat (tu3, en.2.1, en.2.2 ++ [(m, due ns en.2.2.length m)]), _, _, _, _, _, _, _, _, _, _, _, rfl, ⟨?_, alive hp41 gp, alive hd4 gh, nph', (pot4.same up4).upd nph', gg _ _ num, nok, (by rw [upd_same, hmap]), by rw [List.length_set]; exact l1, by rw [List.length_set]; exact l4, by rw [hw]; exact nd, ?_, ?_, ?_⟩⟩
            · refine sub_upd (sub_grow (sub_grow (sub_grow (sG4.trans up4) ?_) ?_) upd_same) (alive hd4 gh)
              · exact (upd_ne ntur.symm).trans ((upd_ne nl3r.symm).trans ((upd_ne nq1r.symm).trans upd_same))
              · exact (upd_ne ntul.symm).trans upd_same
            · intro e he
              obtain ⟨k, hk⟩ := List.mem_iff_getElem?.mp he
              rw [List.getElem?_set] at hk
              split at hk
              · split at hk
                · rw [← Option.some.inj hk]
                  refine ⟨l3, ?_, alive he41 t2, tr (by rw [List.length_append]; exact w4), ⟨rs ++ [r1], ?_, by simp [g2], ?_⟩, ?_⟩
                  · rw [hcast]
                    exact upd_same
                  · rw [List.map_append]
                    exact (upd_ne ntul.symm).trans upd_same
                  · intro k r m' f' h1 h2
                    rw [List.getElem?_append] at h1 h2
                    rw [g2] at h1
                    split at h1
                    · rw [if_pos (by assumption)] at h2
                      exact gg _ _ (g3 k r m' f' h1 h2)
                    · rename_i hk2
                      rw [if_neg hk2] at h2
                      have hk3 : k - en.2.2.length = 0 := by
                        have := (List.getElem?_eq_some_iff.mp h1).1
                        simp at this
                        omega
                      rw [hk3] at h1 h2
                      simp at h1 h2
                      rw [← h1, ← h2.1, ← h2.2]
                      exact (upd_ne ntur.symm).trans ((upd_ne nl3r.symm).trans upd_same)
                  · intro k m' f' h2
                    rw [List.getElem?_append] at h2
                    split at h2
                    · exact t5 k m' f' h2
                    · rename_i hk2
                      have hk3 : k - en.2.2.length = 0 := by
                        have := (List.getElem?_eq_some_iff.mp h2).1
                        simp at this
                        omega
                      rw [hk3] at h2
                      simp at h2
                      have hk4 : k = en.2.2.length := by omega
                      rw [← h2.1, ← h2.2, hk4]
                      exact ⟨hm, rfl⟩
                · cases hk
              · rename_i hne
                have hin' := List.mem_of_getElem? hk
                have oke := ok e hin'
                obtain ⟨_, _, ge, we, _⟩ := id oke
                obtain ⟨dxx, tx, q1', _⟩ := id we
                have hww : e.2.1 ≠ en.2.1 := nodup_ne nd (i := k) (j := d1.toNat) (by rw [List.getElem?_map, hk]; rfl) (by rw [List.getElem?_map, hen]; rfl) (fun z => hne z.symm)
                exact oke.step gg (alive (c4 _ _ q1' hww) ge) fun z => tr (z.chg c4 hww wnt)
            · intro e he
              obtain ⟨k, hk⟩ := List.mem_iff_getElem?.mp he
              rw [List.getElem?_set] at hk
              split at hk
              · split at hk
                · rw [← Option.some.inj hk]
                  have := sz en hin
                  simp
                  omega
                · cases hk
              · exact Nat.le_succ_of_le (sz e (List.mem_of_getElem? hk))
            · rw [List.getElem?_set]
              split
              · rename_i hz
                rw [hz] at hen
                rw [if_pos (by omega)]
                have e0 := Option.some.inj (hen.symm.trans he0)
                exact ⟨tu3, _, by rw [e0]⟩
              · exact ⟨tu0, ps0, he0⟩
      · subst e
        obtain ⟨sub, gp, gh, nph', pot, num, nok, hld, l1, l4, nd, ok, sz, ⟨tu0, ps0, he0⟩⟩ := id I
        repeat (walk_at "st")
        refine w_list (K := K) (fun j σ H2 => ∃ (v6 v8 v10 v11 v15 : Option V), σ = [some (.ref sa), some (.ref p), some (.ref nl), v3, v4, some (.ref w0), v6, some (.ref hd), v8, v9, v10, v11, v12, v13, v14, v15] ∧ Held a.c_Whims ns G H2 p nl hd w0 es 20)
          (SqL.of hld) ⟨v6, v8, v10, v11, v15, rfl, I⟩ (fun j σ H2 _ ⟨_, _, _, _, _, _, I2⟩ => SqL.of I2.hld) (fun j x σ H2 hx ⟨v6, v8, v10, v11, v15, e, I2⟩ => ?_) (fun σ H2 ⟨v6, v8, v10, v11, v15, e, I2⟩ => ?_)
        · subst e
          obtain ⟨en, hen, hin, rfl⟩ := ent_get hx
          clear I sub gp gh nph' pot num nok hld l1 l4 nd ok sz he0 tu0 ps0
          obtain ⟨sub, gp, gh, nph', pot, num, nok, hld, l1, l4, nd, ok, sz, ⟨tu0, ps0, he0⟩⟩ := id I2
          obtain ⟨l, t1, t2, t3, t4, t5⟩ := ok en hin
          obtain ⟨rs, g1, g2, g3⟩ := id t4
          have ht := sub _ _ t1
          have hnum := sub _ _ num
          repeat (walk_at "st")
          refine ⟨_, _, rfl, .inl ⟨by walk_at "sq", fun tn ntn => ?_⟩⟩
          repeat (walk_at "st")
          intro ag dg nag ndg nagd
          refine ⟨ag, dg, tn, ns, rfl, upd_same, .inr (by walk_at "hl"), nok, fun H3 c3 w3 => ⟨rfl, ?_⟩⟩
          have s3 : Same (upd H2 tn (.tup (ns.map V.int))) H3 := Same.made nag ndg c3
          have s23 : Same H2 H3 := (same_new ntn).trans s3
          have I3 : Held a.c_Whims ns G H3 p nl hd w0 es 20 := I2.same s23 (Nat.le_refl _)
          have ag2 : H2 ag = none := by
            have z : ag ≠ tn := fun z => by rw [z, upd_same] at nag; cases nag
            rw [upd_ne z] at nag
            exact nag
          have gag : G ag = none := sub.free ag2
          have hl3 : H3 l = some (.lst (rs.map V.ref)) := I3.sub _ _ g1
          have hz : (rs.map V.ref).length ≤ 20 := by
            have := sz en hin
            rw [List.length_map]
            omega
          have t3' := t3.same s23
          repeat (walk_at "st")
          have pag : p ≠ ag := pot.ne ag2
          have hdag : hd ≠ ag := ne_of_none hld ag2
          have wag : ∀ e ∈ es, e.2.1 ≠ ag := fun e he => by
            obtain ⟨_, _, _, ⟨_, _, q, _⟩, _⟩ := ok e he
            exact ne_of_none q ag2
          refine lcI_L (K := K) (l := l) (xs := rs.map V.ref) (fun D k H4 => k ≤ rs.length ∧ Held a.c_Whims ns G H4 p nl hd w0 es 20 ∧ WhAt a.c_Whims H4 ag ns k ∧ WhAt a.c_Whims H4 en.2.1 ns en.2.2.length ∧ ∃ qs : List Addr, H4 D = some (.lst (qs.map V.ref)) ∧ qs.length = k ∧ ∀ (i : Nat) (r : Addr) (m f : Int), qs[i]? = some r → en.2.2[i]? = some (m, f) → H4 r = some (.tup [.int m, .int f])) ?_ ?_ ?_ ?_ ?_ ?_
          · intro R r
            walk_at "st"
            exact r
          · exact SqL.of hl3
          · intro D nD
            obtain ⟨dw3, tw3, w31, w32⟩ := id w3
            exact ⟨Nat.zero_le _, I3.same (same_new nD) (Nat.le_refl _), w3.same (same_new nD), t3'.same (same_new nD), [], upd_same, rfl, fun i r m f h => by cases h⟩
          · exact fun D i H4 _ p4 => SqL.of (p4.2.1.sub _ _ g1)
          · intro D k x H4 R S nD hx ⟨hk, I4, w4, t34, qs, q1, q2, q3⟩ kk
            have pD : p ≠ D := I3.pot.ne nD
            have hdD : hd ≠ D := ne_of_none I3.hld nD
            have gD : G D = none := I3.sub.free nD
            have wD : ∀ e ∈ es, e.2.1 ≠ D := fun e he => by
              obtain ⟨_, _, _, ⟨_, _, q, _⟩, _⟩ := I3.ok e he
              exact ne_of_none q nD
            obtain ⟨r, hr, rfl⟩ : ∃ r, rs[k]? = some r ∧ x = .ref r := by
              rw [List.getElem?_map] at hx
              cases e : rs[k]? with
              | none => rw [e] at hx; cases hx
              | some r => rw [e] at hx; exact ⟨r, rfl, (Option.some.inj hx).symm⟩
            have hkl : k < rs.length := (List.getElem?_eq_some_iff.mp hr).1
            obtain ⟨m, f, hmf⟩ : ∃ m f, en.2.2[k]? = some (m, f) := ⟨_, _, List.getElem?_eq_getElem (by rw [← g2]; exact hkl)⟩
            obtain ⟨hm, hf⟩ := t5 k m f hmf
            have hr4 := I4.sub _ _ (g3 k r m f hr hmf)
            obtain ⟨dw4, tw4, w41, w42⟩ := id w4
            repeat (walk_at "st")
            refine ⟨ag, ns, k, m, rfl, w4, fun _ H5 c5 w5 => ?_, fun z => absurd hm z⟩
            repeat (walk_at "st")
            intro q nq
            have agnt : ∀ xs, H4 ag ≠ some (.tup xs) := fun xs z => by rw [w41] at z; cases z
            have Dag : D ≠ ag := ne_of q1 w41 (by intro z; cases z)
            have hD5 : upd H5 q (.tup [.int m, .int (due ns k m)]) D = some (.lst (qs.map V.ref)) := (same_new nq) _ _ (c5 _ _ q1 Dag)
            have Dq : D ≠ q := ne_of_none (c5 _ _ q1 Dag) nq
            refine kk (.ref q) _ _ hD5 (by rw [List.length_map] at hz ⊢; omega) ⟨hkl, ((I4.chg c5 gag pag hdag wag agnt).same (same_new nq) (Nat.le_refl _)).chg Chg.refl.upd gD pD hdD wD (fun xs z => by rw [hD5] at z; cases z), (w5.same (same_new nq)).updL hD5, ((t34.chg c5 (wag en hin) agnt).same (same_new nq)).updL hD5, qs ++ [q], by rw [upd_same, List.map_append]; rfl, by simp [q2], ?_⟩
            intro i r' m' f' h1 h2
            rw [List.getElem?_append] at h1
            split at h1
            · have e4 := q3 i r' m' f' h1 h2
              have e5 := (same_new (o := .tup [.int m, .int (due ns k m)]) nq) _ _ (c5 _ _ e4 (ne_of e4 w41 (by intro z; cases z)))
              exact (upd_ne (ne_of e5 hD5 (by intro z; cases z))).trans e5
            · rename_i hi2
              have hi3 : i - qs.length = 0 := by
                have := (List.getElem?_eq_some_iff.mp h1).1
                simp at this
                omega
              rw [hi3] at h1
              simp at h1
              have hi4 : i = k := by omega
              rw [hi4, hmf] at h2
              obtain ⟨e1, e2⟩ := Prod.mk.inj (Option.some.inj h2)
              rw [← h1, ← e1, ← e2, hf]
              exact (upd_ne Dq.symm).trans upd_same
          · intro D H4 nD ⟨_, I4, w4, t34, qs, q1, q2, q3⟩
            repeat (walk_at "st")
            rw [List.length_map] at w4 q2
            obtain ⟨d34, t34', q34, _⟩ := id t34
            obtain ⟨dw4, tw4, w41, w42⟩ := id w4
            refine w_or ?_
            repeat (walk_at "st")
            refine ⟨_, ns, _, rfl, t34, ?_⟩
            repeat (walk_at "st")
            refine ifT' rfl ?_
            refine w_or ?_
            repeat (walk_at "st")
            refine w_neD (.list (en.2.2.map pairD)) (.lst (SqL.of q1) (pairs_dp (q2.trans g2) q3)) (.lst (SqL.of (I4.sub _ _ g1)) (pairs_dp g2 fun i r m f h1 h2 => I4.sub _ _ (g3 i r m f h1 h2))) (pairs_shaped _) (pairs_eqv _) ?_
            repeat (walk_at "st")
            refine ⟨ag, ns, _, rfl, w4, ?_⟩
            repeat (walk_at "st")
            refine ifT' (congrArg V.int (by omega)) ?_
            repeat (walk_at "st")
            exact ⟨_, _, _, _, _, rfl, I4⟩
        · subst e
          obtain ⟨sub, gp, gh, nph', pot, num, nok, hld, l1, l4, nd, ok, sz, ⟨tu0, ps0, he0⟩⟩ := id I2
          obtain ⟨l, t1, t2, t3, t4, t5⟩ := ok _ (List.mem_of_getElem? he0)
          obtain ⟨dw, tw', hw1, hw2⟩ := id t3
          repeat (walk_at "st")
          refine ⟨w0, ns, _, rfl, t3, nok, fun y H3 s3 ny wy => ?_⟩
          obtain ⟨dy, ty, wy1, wy2⟩ := id wy
          repeat (walk_at "st")
          refine ⟨y, ns, _, 7, rfl, wy, fun _ H4 c4 w4 => ?_, fun z => absurd (by decide) z⟩
          have hwy : w0 ≠ y := ne_of_none hw1 ny
          have wynt : ∀ xs, H3 y ≠ some (.tup xs) := fun xs z => by rw [wy1] at z; cases z
          have I4 : Held a.c_Whims ns G H4 p nl hd w0 es 20 := (I2.same s3 (Nat.le_refl _)).chg c4 (sub.free ny) (pot.ne ny) (ne_of_none hld ny) (fun e he => by
            obtain ⟨_, _, _, ⟨_, _, q, _⟩, _⟩ := ok e he
            exact ne_of_none q ny) wynt
          have t34 := (t3.same s3).chg c4 hwy wynt
          obtain ⟨dw4, tw4, hw41, hw42⟩ := id t34
          have hd4 := I4.hld
          have num4 := I4.sub _ _ num
          have t14 := I4.sub _ _ t1
          have ix0 : atI (es.map fun e => V.ref e.1) 0 = some (.ref tu0) := atI_nat (j := 0) (by rw [List.getElem?_map, he0]; rfl)
          repeat (walk_at "st")
          refine ⟨nl, ns, _, 7, rfl, SqL.of num4, by decide, ?_⟩
          repeat (walk_at "st")
          rw [decide_eq_true rfl]
          refine iteT ?_
          repeat (walk_at "st")
          refine ⟨w0, ns, _, rfl, t34, ?_⟩
          repeat (walk_at "st")
          rw [decide_eq_true rfl]
          exact q _
end
theorem all_mk {l : PySem.W.OpenLaw} {w : World} {K : PySem.W.Frag} {h : Heap} {mg : Str → Option Value} {fa : Addr} (X : K.In h) (G : h.Ns mainGlobals mg) (hfa : mg "law" = some (.ref fa))
    {f_CoreError___init__ : Addr} {d_CoreError___init__ : FuncData} {f_is_integer : Addr} {d_is_integer : FuncData} {f_is_count : Addr} {d_is_count : FuncData} {f_is_list : Addr} {d_is_list : FuncData} {f_Whims___init__ : Addr} {d_Whims___init__ : FuncData} {f_Whims_taken : Addr} {d_Whims_taken : FuncData} {p_Whims_taken : Addr} {f_Whims_take : Addr} {d_Whims_take : FuncData} {f_Whims_copy : Addr} {d_Whims_copy : FuncData} {f__law_pot : Addr} {d__law_pot : FuncData} {f__law_draw : Addr} {d__law_draw : FuncData} {f__law_pick : Addr} {d__law_pick : FuncData} {f__law_refused : Addr} {d__law_refused : FuncData} {f__law_due : Addr} {d__law_due : FuncData} {f_law : Addr} {d_law : FuncData} {c_CoreError : Addr} {c_InvalidMany : Addr} {c_InvalidNumbers : Addr} {c_Whims : Addr} {t_MOST_NUMBERS : Tok} {t_MOST_NUMBER : Tok}
    (a_CoreError : PySem.W.nsIn K mainGlobals "CoreError" = some (some (.ref c_CoreError)))
    (xc_CoreError : ∃ nm q N bs sn sub ab col dd k0 k1 k2 k3 k5, K.lookup c_CoreError = some (excClassObj nm q c_CoreError N bs [.type "ValueError", .type "Exception", .type "BaseException", .type "object"] true sn sub ab col dd k0 k1 k2 k3 k5 "ValueError.__new__"))
    (xs_CoreError : PySem.W.findIn K (.ref c_CoreError) "__setattr__" = some (some (.builtin "object.__setattr__")))
    (xb_CoreError : PySem.W.subIn K (.ref c_CoreError) (.type "BaseException") = some true)
    (xy_CoreError : PySem.W.typeIn K (.ref c_CoreError) = some (.type "type"))
    (xk_CoreError : PySem.W.keepIn K (.ref c_CoreError) = true)
    (xi_CoreError : PySem.W.findIn K (.ref c_CoreError) "__init__" = some (some (.ref f_CoreError___init__)))
    (xn_CoreError_value : PySem.W.findIn K (.ref c_CoreError) "value" = some none)
    (a_InvalidMany : PySem.W.nsIn K mainGlobals "InvalidMany" = some (some (.ref c_InvalidMany)))
    (xc_InvalidMany : ∃ nm q N bs sn sub ab col dd k0 k1 k2 k3 k5, K.lookup c_InvalidMany = some (excClassObj nm q c_InvalidMany N bs [.ref c_CoreError, .type "ValueError", .type "Exception", .type "BaseException", .type "object"] true sn sub ab col dd k0 k1 k2 k3 k5 "ValueError.__new__"))
    (xs_InvalidMany : PySem.W.findIn K (.ref c_InvalidMany) "__setattr__" = some (some (.builtin "object.__setattr__")))
    (xb_InvalidMany : PySem.W.subIn K (.ref c_InvalidMany) (.type "BaseException") = some true)
    (xy_InvalidMany : PySem.W.typeIn K (.ref c_InvalidMany) = some (.type "type"))
    (xk_InvalidMany : PySem.W.keepIn K (.ref c_InvalidMany) = true)
    (xi_InvalidMany : PySem.W.findIn K (.ref c_InvalidMany) "__init__" = some (some (.ref f_CoreError___init__)))
    (xn_InvalidMany_value : PySem.W.findIn K (.ref c_InvalidMany) "value" = some none)
    (xl_InvalidMany : PySem.W.isClsIn K c_InvalidMany = true)
    (xz_InvalidMany : PySem.W.subIn K (.ref c_InvalidMany) (.ref c_InvalidMany) = some true)
    (a_InvalidNumbers : PySem.W.nsIn K mainGlobals "InvalidNumbers" = some (some (.ref c_InvalidNumbers)))
    (xc_InvalidNumbers : ∃ nm q N bs sn sub ab col dd k0 k1 k2 k3 k5, K.lookup c_InvalidNumbers = some (excClassObj nm q c_InvalidNumbers N bs [.ref c_CoreError, .type "ValueError", .type "Exception", .type "BaseException", .type "object"] true sn sub ab col dd k0 k1 k2 k3 k5 "ValueError.__new__"))
    (xs_InvalidNumbers : PySem.W.findIn K (.ref c_InvalidNumbers) "__setattr__" = some (some (.builtin "object.__setattr__")))
    (xb_InvalidNumbers : PySem.W.subIn K (.ref c_InvalidNumbers) (.type "BaseException") = some true)
    (xy_InvalidNumbers : PySem.W.typeIn K (.ref c_InvalidNumbers) = some (.type "type"))
    (xk_InvalidNumbers : PySem.W.keepIn K (.ref c_InvalidNumbers) = true)
    (xi_InvalidNumbers : PySem.W.findIn K (.ref c_InvalidNumbers) "__init__" = some (some (.ref f_CoreError___init__)))
    (xn_InvalidNumbers_value : PySem.W.findIn K (.ref c_InvalidNumbers) "value" = some none)
    (a_Whims : PySem.W.nsIn K mainGlobals "Whims" = some (some (.ref c_Whims)))
    (pg_Whims : PySem.W.plainGet K c_Whims Str.empty = true)
    (hd_Whims : PySem.W.hasDictIn K c_Whims = true)
    (po_Whims : PySem.W.plainOver K c_Whims = true)
    (sa_Whims : PySem.W.findIn K (.ref c_Whims) "__setattr__" = some (some (.builtin "object.__setattr__")))
    (n_Whims_own_numbers : PySem.W.findIn K (.ref c_Whims) "own_numbers" = some none)
    (n_Whims_own_taken : PySem.W.findIn K (.ref c_Whims) "own_taken" = some none)
    (mk_Whims : PySem.W.makesIn K c_Whims = true)
    (mi_Whims : PySem.W.findIn K (.ref c_Whims) "__init__" = some (some (.ref f_Whims___init__)))
    (mf_Whims : PySem.W.isFn K (.ref f_Whims___init__) = true)
    (kc_Whims : PySem.W.keepIn K (.ref c_Whims) = true)
    (l_CoreError___init__ : ∃ oc od kV dc pm an cd ct sl, d_CoreError___init__ = PySem.W.fnOf "__init__" "CoreError.__init__" (defArgs s_CoreError___init__) (defBody s_CoreError___init__) (defScope s_CoreError___init__) .none kV dc pm an cd ct ∧ K.lookup f_CoreError___init__ = some ⟨oc, od, .func d_CoreError___init__, sl⟩ ∧ PySem.W.codeIn K cd "CoreError.__init__" = true)
    (kp_CoreError___init__ : PySem.W.keepIn K (.ref f_CoreError___init__) = true)
    (xt_CoreError___init__ : PySem.W.typeIn K (.ref f_CoreError___init__) = some (.type "function"))
    (a_is_integer : PySem.W.nsIn K mainGlobals "is_integer" = some (some (.ref f_is_integer)))
    (l_is_integer : ∃ oc od kV dc pm an cd ct sl, d_is_integer = PySem.W.fnOf "is_integer" "is_integer" (defArgs s_is_integer) (defBody s_is_integer) (defScope s_is_integer) .none kV dc pm an cd ct ∧ K.lookup f_is_integer = some ⟨oc, od, .func d_is_integer, sl⟩ ∧ PySem.W.codeIn K cd "is_integer" = true)
    (kp_is_integer : PySem.W.keepIn K (.ref f_is_integer) = true)
    (a_is_count : PySem.W.nsIn K mainGlobals "is_count" = some (some (.ref f_is_count)))
    (l_is_count : ∃ oc od kV dc pm an cd ct sl, d_is_count = PySem.W.fnOf "is_count" "is_count" (defArgs s_is_count) (defBody s_is_count) (defScope s_is_count) .none kV dc pm an cd ct ∧ K.lookup f_is_count = some ⟨oc, od, .func d_is_count, sl⟩ ∧ PySem.W.codeIn K cd "is_count" = true)
    (kp_is_count : PySem.W.keepIn K (.ref f_is_count) = true)
    (a_is_list : PySem.W.nsIn K mainGlobals "is_list" = some (some (.ref f_is_list)))
    (l_is_list : ∃ oc od kV dc pm an cd ct sl, d_is_list = PySem.W.fnOf "is_list" "is_list" (defArgs s_is_list) (defBody s_is_list) (defScope s_is_list) .none kV dc pm an cd ct ∧ K.lookup f_is_list = some ⟨oc, od, .func d_is_list, sl⟩ ∧ PySem.W.codeIn K cd "is_list" = true)
    (kp_is_list : PySem.W.keepIn K (.ref f_is_list) = true)
    (l_Whims___init__ : ∃ oc od kV dc pm an cd ct sl, d_Whims___init__ = PySem.W.fnOf "__init__" "Whims.__init__" (defArgs s_Whims___init__) (defBody s_Whims___init__) (defScope s_Whims___init__) .none kV dc pm an cd ct ∧ K.lookup f_Whims___init__ = some ⟨oc, od, .func d_Whims___init__, sl⟩ ∧ PySem.W.codeIn K cd "Whims.__init__" = true)
    (kp_Whims___init__ : PySem.W.keepIn K (.ref f_Whims___init__) = true)
    (l_Whims_taken : ∃ oc od kV dc pm an cd ct sl, d_Whims_taken = PySem.W.fnOf "taken" "Whims.taken" (defArgs s_Whims_taken) (defBody s_Whims_taken) (defScope s_Whims_taken) .none kV dc pm an cd ct ∧ K.lookup f_Whims_taken = some ⟨oc, od, .func d_Whims_taken, sl⟩ ∧ PySem.W.codeIn K cd "Whims.taken" = true)
    (kp_Whims_taken : PySem.W.keepIn K (.ref f_Whims_taken) = true)
    (pa_Whims_taken : PySem.W.findIn K (.ref c_Whims) "taken" = some (some (.ref p_Whims_taken)))
    (pb_Whims_taken : PySem.W.specialIn K (.ref p_Whims_taken) "__get__" = some (some (.builtin "property.__get__")))
    (pt_Whims_taken : PySem.W.takesIn K (.ref p_Whims_taken) = some true)
    (pr_Whims_taken : ∃ rest, PySem.W.recIn K p_Whims_taken "property" = some (.ref f_Whims_taken :: rest))
    (l_Whims_take : ∃ oc od kV dc pm an cd ct sl, d_Whims_take = PySem.W.fnOf "take" "Whims.take" (defArgs s_Whims_take) (defBody s_Whims_take) (defScope s_Whims_take) .none kV dc pm an cd ct ∧ K.lookup f_Whims_take = some ⟨oc, od, .func d_Whims_take, sl⟩ ∧ PySem.W.codeIn K cd "Whims.take" = true)
    (kp_Whims_take : PySem.W.keepIn K (.ref f_Whims_take) = true)
    (ma_Whims_take : PySem.W.findIn K (.ref c_Whims) "take" = some (some (.ref f_Whims_take)))
    (mb_Whims_take : PySem.W.isFn K (.ref f_Whims_take) = true)
    (l_Whims_copy : ∃ oc od kV dc pm an cd ct sl, d_Whims_copy = PySem.W.fnOf "copy" "Whims.copy" (defArgs s_Whims_copy) (defBody s_Whims_copy) (defScope s_Whims_copy) .none kV dc pm an cd ct ∧ K.lookup f_Whims_copy = some ⟨oc, od, .func d_Whims_copy, sl⟩ ∧ PySem.W.codeIn K cd "Whims.copy" = true)
    (kp_Whims_copy : PySem.W.keepIn K (.ref f_Whims_copy) = true)
    (ma_Whims_copy : PySem.W.findIn K (.ref c_Whims) "copy" = some (some (.ref f_Whims_copy)))
    (mb_Whims_copy : PySem.W.isFn K (.ref f_Whims_copy) = true)
    (a__law_pot : PySem.W.nsIn K mainGlobals "_law_pot" = some (some (.ref f__law_pot)))
    (l__law_pot : ∃ oc od kV dc pm an cd ct sl, d__law_pot = PySem.W.fnOf "_law_pot" "_law_pot" (defArgs s__law_pot) (defBody s__law_pot) (defScope s__law_pot) .none kV dc pm an cd ct ∧ K.lookup f__law_pot = some ⟨oc, od, .func d__law_pot, sl⟩ ∧ PySem.W.codeIn K cd "_law_pot" = true)
    (kp__law_pot : PySem.W.keepIn K (.ref f__law_pot) = true)
    (a__law_draw : PySem.W.nsIn K mainGlobals "_law_draw" = some (some (.ref f__law_draw)))
    (l__law_draw : ∃ oc od kV dc pm an cd ct sl, d__law_draw = PySem.W.fnOf "_law_draw" "_law_draw" (defArgs s__law_draw) (defBody s__law_draw) (defScope s__law_draw) .none kV dc pm an cd ct ∧ K.lookup f__law_draw = some ⟨oc, od, .func d__law_draw, sl⟩ ∧ PySem.W.codeIn K cd "_law_draw" = true)
    (kp__law_draw : PySem.W.keepIn K (.ref f__law_draw) = true)
    (a__law_pick : PySem.W.nsIn K mainGlobals "_law_pick" = some (some (.ref f__law_pick)))
    (l__law_pick : ∃ oc od kV dc pm an cd ct sl, d__law_pick = PySem.W.fnOf "_law_pick" "_law_pick" (defArgs s__law_pick) (defBody s__law_pick) (defScope s__law_pick) .none kV dc pm an cd ct ∧ K.lookup f__law_pick = some ⟨oc, od, .func d__law_pick, sl⟩ ∧ PySem.W.codeIn K cd "_law_pick" = true)
    (kp__law_pick : PySem.W.keepIn K (.ref f__law_pick) = true)
    (a__law_refused : PySem.W.nsIn K mainGlobals "_law_refused" = some (some (.ref f__law_refused)))
    (l__law_refused : ∃ oc od kV dc pm an cd ct sl, d__law_refused = PySem.W.fnOf "_law_refused" "_law_refused" (defArgs s__law_refused) (defBody s__law_refused) (defScope s__law_refused) .none kV dc pm an cd ct ∧ K.lookup f__law_refused = some ⟨oc, od, .func d__law_refused, sl⟩ ∧ PySem.W.codeIn K cd "_law_refused" = true)
    (kp__law_refused : PySem.W.keepIn K (.ref f__law_refused) = true)
    (a__law_due : PySem.W.nsIn K mainGlobals "_law_due" = some (some (.ref f__law_due)))
    (l__law_due : ∃ oc od kV dc pm an cd ct sl, d__law_due = PySem.W.fnOf "_law_due" "_law_due" (defArgs s__law_due) (defBody s__law_due) (defScope s__law_due) .none kV dc pm an cd ct ∧ K.lookup f__law_due = some ⟨oc, od, .func d__law_due, sl⟩ ∧ PySem.W.codeIn K cd "_law_due" = true)
    (kp__law_due : PySem.W.keepIn K (.ref f__law_due) = true)
    (a_law : PySem.W.nsIn K mainGlobals "law" = some (some (.ref f_law)))
    (l_law : ∃ oc od kV dc pm an cd ct sl, d_law = PySem.W.fnOf "law" "law" (defArgs s_law) (defBody s_law) (defScope s_law) .none kV dc pm an cd ct ∧ K.lookup f_law = some ⟨oc, od, .func d_law, sl⟩ ∧ PySem.W.codeIn K cd "law" = true)
    (kp_law : PySem.W.keepIn K (.ref f_law) = true)
    (z_abs : PySem.W.nsIn K mainGlobals "abs" = some none)
    (z_all : PySem.W.nsIn K mainGlobals "all" = some none)
    (z_bool : PySem.W.nsIn K mainGlobals "bool" = some none)
    (z_divmod : PySem.W.nsIn K mainGlobals "divmod" = some none)
    (z_int : PySem.W.nsIn K mainGlobals "int" = some none)
    (z_isinstance : PySem.W.nsIn K mainGlobals "isinstance" = some none)
    (z_len : PySem.W.nsIn K mainGlobals "len" = some none)
    (z_list : PySem.W.nsIn K mainGlobals "list" = some none)
    (z_max : PySem.W.nsIn K mainGlobals "max" = some none)
    (z_range : PySem.W.nsIn K mainGlobals "range" = some none)
    (z_tuple : PySem.W.nsIn K mainGlobals "tuple" = some none)
    (v_MOST_NUMBERS : PySem.W.nsIn K mainGlobals "MOST_NUMBERS" = some (some (.int 200 t_MOST_NUMBERS)))
    (v_MOST_NUMBER : PySem.W.nsIn K mainGlobals "MOST_NUMBER" = some (some (.int 1000000 t_MOST_NUMBER)))
    : ∃ fd : FuncData, (∀ (s : Shared) (v : Value), BindsTo s fd ⟨[v], []⟩ [("_law_script", v)]) ∧ ∀ base : Heap, K.In base → base.Ns mainGlobals mg → FnOk l.prog w K mg base (L2.CX l.prog w) 8 fa fd ["_law_script"] (sp_law K) := by
  have T : Txt K mg ⟨f_CoreError___init__, d_CoreError___init__, f_is_integer, d_is_integer, f_is_count, d_is_count, f_is_list, d_is_list, f_Whims___init__, d_Whims___init__, f_Whims_taken, d_Whims_taken, p_Whims_taken, f_Whims_take, d_Whims_take, f_Whims_copy, d_Whims_copy, f__law_pot, d__law_pot, f__law_draw, d__law_draw, f__law_pick, d__law_pick, f__law_refused, d__law_refused, f__law_due, d__law_due, f_law, d_law, c_CoreError, c_InvalidMany, c_InvalidNumbers, c_Whims, t_MOST_NUMBERS, t_MOST_NUMBER⟩ := {
    g_CoreError := PySem.W.mg_of X G a_CoreError,
    x_CoreError := (by obtain ⟨nm, q, N, bs, sn, sub, ab, col, dd, k0, k1, k2, k3, k5, e⟩ := xc_CoreError; exact ⟨⟨nm, q, N, bs, _, sn, sub, ab, col, dd, k0, k1, k2, k3, k5, e, by simp [PySem.HandSPX.refsVE]⟩, xs_CoreError, xb_CoreError, xy_CoreError, xk_CoreError⟩),
    xi_CoreError := xi_CoreError,
    xn_CoreError_value := xn_CoreError_value,
    g_InvalidMany := PySem.W.mg_of X G a_InvalidMany,
    x_InvalidMany := (by obtain ⟨nm, q, N, bs, sn, sub, ab, col, dd, k0, k1, k2, k3, k5, e⟩ := xc_InvalidMany; exact ⟨⟨nm, q, N, bs, _, sn, sub, ab, col, dd, k0, k1, k2, k3, k5, e, by simp [PySem.HandSPX.refsVE]⟩, xs_InvalidMany, xb_InvalidMany, xy_InvalidMany, xk_InvalidMany⟩),
    xi_InvalidMany := xi_InvalidMany,
    xn_InvalidMany_value := xn_InvalidMany_value,
    xe_InvalidMany := exm_self xb_InvalidMany xl_InvalidMany xy_InvalidMany xz_InvalidMany,
    g_InvalidNumbers := PySem.W.mg_of X G a_InvalidNumbers,
    x_InvalidNumbers := (by obtain ⟨nm, q, N, bs, sn, sub, ab, col, dd, k0, k1, k2, k3, k5, e⟩ := xc_InvalidNumbers; exact ⟨⟨nm, q, N, bs, _, sn, sub, ab, col, dd, k0, k1, k2, k3, k5, e, by simp [PySem.HandSPX.refsVE]⟩, xs_InvalidNumbers, xb_InvalidNumbers, xy_InvalidNumbers, xk_InvalidNumbers⟩),
    xi_InvalidNumbers := xi_InvalidNumbers,
    xn_InvalidNumbers_value := xn_InvalidNumbers_value,
    g_Whims := PySem.W.mg_of X G a_Whims,
    c_Whims := ⟨pg_Whims, hd_Whims, po_Whims, sa_Whims⟩,
    n_Whims_own_numbers := n_Whims_own_numbers,
    n_Whims_own_taken := n_Whims_own_taken,
    k_Whims := ⟨mk_Whims, mi_Whims, mf_Whims, kc_Whims⟩,
    F_CoreError___init__ := ⟨l_CoreError___init__, kp_CoreError___init__⟩,
    b_CoreError___init__ := (Fun.binds (st := s_CoreError___init__) ⟨l_CoreError___init__, kp_CoreError___init__⟩ fun _ _ _ _ _ _ us hl => match us, hl with | [_, _], _ => rfl),
    xt_CoreError___init__ := xt_CoreError___init__,
    m_is_integer := PySem.W.mg_of X G a_is_integer,
    F_is_integer := ⟨l_is_integer, kp_is_integer⟩,
    b_is_integer := (Fun.binds (st := s_is_integer) ⟨l_is_integer, kp_is_integer⟩ fun _ _ _ _ _ _ us hl => match us, hl with | [_], _ => rfl),
    m_is_count := PySem.W.mg_of X G a_is_count,
    F_is_count := ⟨l_is_count, kp_is_count⟩,
    b_is_count := (Fun.binds (st := s_is_count) ⟨l_is_count, kp_is_count⟩ fun _ _ _ _ _ _ us hl => match us, hl with | [_], _ => rfl),
    m_is_list := PySem.W.mg_of X G a_is_list,
    F_is_list := ⟨l_is_list, kp_is_list⟩,
    b_is_list := (Fun.binds (st := s_is_list) ⟨l_is_list, kp_is_list⟩ fun _ _ _ _ _ _ us hl => match us, hl with | [_], _ => rfl),
    F_Whims___init__ := ⟨l_Whims___init__, kp_Whims___init__⟩,
    b_Whims___init__ := (Fun.binds (st := s_Whims___init__) ⟨l_Whims___init__, kp_Whims___init__⟩ fun _ _ _ _ _ _ us hl => match us, hl with | [_, _], _ => rfl),
    F_Whims_taken := ⟨l_Whims_taken, kp_Whims_taken⟩,
    b_Whims_taken := (Fun.binds (st := s_Whims_taken) ⟨l_Whims_taken, kp_Whims_taken⟩ fun _ _ _ _ _ _ us hl => match us, hl with | [_], _ => rfl),
    p_Whims_taken := ⟨pa_Whims_taken, pb_Whims_taken, pt_Whims_taken, pr_Whims_taken⟩,
    F_Whims_take := ⟨l_Whims_take, kp_Whims_take⟩,
    b_Whims_take := (Fun.binds (st := s_Whims_take) ⟨l_Whims_take, kp_Whims_take⟩ fun _ _ _ _ _ _ us hl => match us, hl with | [_, _], _ => rfl),
    M_Whims_take := ⟨ma_Whims_take, mb_Whims_take, kp_Whims_take⟩,
    F_Whims_copy := ⟨l_Whims_copy, kp_Whims_copy⟩,
    b_Whims_copy := (Fun.binds (st := s_Whims_copy) ⟨l_Whims_copy, kp_Whims_copy⟩ fun _ _ _ _ _ _ us hl => match us, hl with | [_], _ => rfl),
    M_Whims_copy := ⟨ma_Whims_copy, mb_Whims_copy, kp_Whims_copy⟩,
    m__law_pot := PySem.W.mg_of X G a__law_pot,
    F__law_pot := ⟨l__law_pot, kp__law_pot⟩,
    b__law_pot := (Fun.binds (st := s__law_pot) ⟨l__law_pot, kp__law_pot⟩ fun _ _ _ _ _ _ us hl => match us, hl with | [_, _], _ => rfl),
    m__law_draw := PySem.W.mg_of X G a__law_draw,
    F__law_draw := ⟨l__law_draw, kp__law_draw⟩,
    b__law_draw := (Fun.binds (st := s__law_draw) ⟨l__law_draw, kp__law_draw⟩ fun _ _ _ _ _ _ us hl => match us, hl with | [_, _], _ => rfl),
    m__law_pick := PySem.W.mg_of X G a__law_pick,
    F__law_pick := ⟨l__law_pick, kp__law_pick⟩,
    b__law_pick := (Fun.binds (st := s__law_pick) ⟨l__law_pick, kp__law_pick⟩ fun _ _ _ _ _ _ us hl => match us, hl with | [_, _], _ => rfl),
    m__law_refused := PySem.W.mg_of X G a__law_refused,
    F__law_refused := ⟨l__law_refused, kp__law_refused⟩,
    b__law_refused := (Fun.binds (st := s__law_refused) ⟨l__law_refused, kp__law_refused⟩ fun _ _ _ _ _ _ us hl => match us, hl with | [_, _], _ => rfl),
    m__law_due := PySem.W.mg_of X G a__law_due,
    F__law_due := ⟨l__law_due, kp__law_due⟩,
    b__law_due := (Fun.binds (st := s__law_due) ⟨l__law_due, kp__law_due⟩ fun _ _ _ _ _ _ us hl => match us, hl with | [_, _, _], _ => rfl),
    m_law := PySem.W.mg_of X G a_law,
    F_law := ⟨l_law, kp_law⟩,
    b_law := (Fun.binds (st := s_law) ⟨l_law, kp_law⟩ fun _ _ _ _ _ _ us hl => match us, hl with | [_], _ => rfl),
    kb_Whims_take_1_many := (kbn_of (st := s_Whims_take) ⟨l_Whims_take, kp_Whims_take⟩ (fun _ _ _ _ _ _ us ws h1 h2 => match us, h1, ws, h2 with | [_], _, [_], _ => rfl) (fun r1 r2 => .cons (vals_getD r1 0) (.cons (vals_getD r2 0) (.nil)))),
    z_abs := PySem.W.mg_none_of X G z_abs,
    z_all := PySem.W.mg_none_of X G z_all,
    z_bool := PySem.W.mg_none_of X G z_bool,
    z_divmod := PySem.W.mg_none_of X G z_divmod,
    z_int := PySem.W.mg_none_of X G z_int,
    z_isinstance := PySem.W.mg_none_of X G z_isinstance,
    z_len := PySem.W.mg_none_of X G z_len,
    z_list := PySem.W.mg_none_of X G z_list,
    z_max := PySem.W.mg_none_of X G z_max,
    z_range := PySem.W.mg_none_of X G z_range,
    z_tuple := PySem.W.mg_none_of X G z_tuple,
    v_MOST_NUMBERS := PySem.W.mg_of X G v_MOST_NUMBERS,
    v_MOST_NUMBER := PySem.W.mg_of X G v_MOST_NUMBER }
  have e := hfa.symm.trans T.m_law
  cases e
  refine ⟨d_law, fun s v => ?_, fun base _ _ => ok_law T⟩
  obtain ⟨oc, od, kV, dc, pm, an, cd, ct, sl, e, _, _⟩ := l_law
  rw [e]
  exact .of_eq rfl
theorem walk {l : PySem.W.OpenLaw} {q : Program} {loose : List Str} {XP : (Str → Option Value) → Heap → Prop} {YP : World → Heap → Prop} {d : DefRec} {K : Params → PySem.W.Frag} (hn : l.most = some 63) (hdf : d.params.defaults = [])
    (hY : ∀ (w : World) (h : Heap), YP w h → (K w.params).In h)
    (F : ∀ (w : World) (mg : Str → Option Value) (fa : Addr) (h : Heap), (K w.params).In h → h.Ns mainGlobals mg → mg d.name = some (.ref fa) →
      ∃ fd : FuncData, (∀ (s : Shared) (u : Value), BindsTo s fd ⟨[u], []⟩ [("_law_script", u)]) ∧ ∀ base : Heap, (K w.params).In base → base.Ns mainGlobals mg → FnOk l.prog w (K w.params) mg base (L2.CX l.prog w) 8 fa fd ["_law_script"] (sp_law (K w.params))) :
    PySem.W.WalkO q loose XP YP l.row.toRowW d [] (fun f vs => PySem.call f vs) :=
  L2.walk_of (n := 63) (k := 8) (x := "_law_script") (CX := fun w => L2.CX l.prog w) (sp := fun w => sp_law (K w.params)) hn (by decide) hdf ⟨rfl, by decide, by decide⟩ hY F (fun _ _ a ns hl _ hS => ⟨a, ns, rfl, hS, hl, fun _ => rfl⟩) fun w H s e s' z => (by
    obtain ⟨_, _, _, _, _, _, _, _, _, _, _, _, z⟩ := z
    exact z)
end Toy
open PySem PySem.W PyProof.Rows
set_option maxRecDepth 100000 in
set_option maxHeartbeats 0 in
theorem PySem.Challenge.cw_orderlycore_k12_whole_whims_taken_holds : PySem.Challenge.rw_orderlycore_k12_whole_whims_taken.Holds := by
  w_on; o_law; k_head; (case hw => w_witness2)
  k_fill
  refine Toy.walk (l := PySem.Challenge.rw_orderlycore_k12_whole_whims_taken) rfl rfl (fun w h Y => PySem.W.kIn_of Y) ?F
  case F =>
    intro w mg fa h KX G hmg
    refine' Toy.all_mk KX G hmg ?a_CoreError ?xc_CoreError ?xs_CoreError ?xb_CoreError ?xy_CoreError ?xk_CoreError ?xi_CoreError ?xn_CoreError_value ?a_InvalidMany ?xc_InvalidMany ?xs_InvalidMany ?xb_InvalidMany ?xy_InvalidMany ?xk_InvalidMany ?xi_InvalidMany ?xn_InvalidMany_value ?xl_InvalidMany ?xz_InvalidMany ?a_InvalidNumbers ?xc_InvalidNumbers ?xs_InvalidNumbers ?xb_InvalidNumbers ?xy_InvalidNumbers ?xk_InvalidNumbers ?xi_InvalidNumbers ?xn_InvalidNumbers_value ?a_Whims ?pg_Whims ?hd_Whims ?po_Whims ?sa_Whims ?n_Whims_own_numbers ?n_Whims_own_taken ?mk_Whims ?mi_Whims ?mf_Whims ?kc_Whims ?l_CoreError___init__ ?kp_CoreError___init__ ?xt_CoreError___init__ ?a_is_integer ?l_is_integer ?kp_is_integer ?a_is_count ?l_is_count ?kp_is_count ?a_is_list ?l_is_list ?kp_is_list ?l_Whims___init__ ?kp_Whims___init__ ?l_Whims_taken ?kp_Whims_taken ?pa_Whims_taken ?pb_Whims_taken ?pt_Whims_taken ?pr_Whims_taken ?l_Whims_take ?kp_Whims_take ?ma_Whims_take ?mb_Whims_take ?l_Whims_copy ?kp_Whims_copy ?ma_Whims_copy ?mb_Whims_copy ?a__law_pot ?l__law_pot ?kp__law_pot ?a__law_draw ?l__law_draw ?kp__law_draw ?a__law_pick ?l__law_pick ?kp__law_pick ?a__law_refused ?l__law_refused ?kp__law_refused ?a__law_due ?l__law_due ?kp__law_due ?a_law ?l_law ?kp_law ?z_abs ?z_all ?z_bool ?z_divmod ?z_int ?z_isinstance ?z_len ?z_list ?z_max ?z_range ?z_tuple ?v_MOST_NUMBERS ?v_MOST_NUMBER
    (case a_CoreError => k_is)
    (case xs_CoreError => k_is)
    (case xb_CoreError => k_is)
    (case xy_CoreError => k_is)
    (case xk_CoreError => k_is)
    (case xi_CoreError => k_is)
    (case xn_CoreError_value => k_is)
    (case a_InvalidMany => k_is)
    (case xs_InvalidMany => k_is)
    (case xb_InvalidMany => k_is)
    (case xy_InvalidMany => k_is)
    (case xk_InvalidMany => k_is)
    (case xi_InvalidMany => k_is)
    (case xn_InvalidMany_value => k_is)
    (case xl_InvalidMany => k_is)
    (case xz_InvalidMany => first | rfl | k_is)
    (case a_InvalidNumbers => k_is)
    (case xs_InvalidNumbers => k_is)
    (case xb_InvalidNumbers => k_is)
    (case xy_InvalidNumbers => k_is)
    (case xk_InvalidNumbers => k_is)
    (case xi_InvalidNumbers => k_is)
    (case xn_InvalidNumbers_value => k_is)
    (case a_Whims => k_is)
    (case pg_Whims => k_is)
    (case hd_Whims => k_is)
    (case po_Whims => k_is)
    (case sa_Whims => k_is)
    (case n_Whims_own_numbers => k_is)
    (case n_Whims_own_taken => k_is)
    (case mk_Whims => k_is)
    (case mi_Whims => k_is)
    (case kc_Whims => k_is)
    (case a_is_integer => k_is)
    (case a_is_count => k_is)
    (case a_is_list => k_is)
    (case pa_Whims_taken => k_is)
    (case ma_Whims_take => k_is)
    (case ma_Whims_copy => k_is)
    (case a__law_pot => k_is)
    (case a__law_draw => k_is)
    (case a__law_pick => k_is)
    (case a__law_refused => k_is)
    (case a__law_due => k_is)
    (case a_law => k_is)
    (case z_abs => k_is)
    (case z_all => k_is)
    (case z_bool => k_is)
    (case z_divmod => k_is)
    (case z_int => k_is)
    (case z_isinstance => k_is)
    (case z_len => k_is)
    (case z_list => k_is)
    (case z_max => k_is)
    (case z_range => k_is)
    (case z_tuple => k_is)
    (case v_MOST_NUMBERS => k_is)
    (case v_MOST_NUMBER => k_is)
    (case xc_CoreError => exact ⟨_, _, _, _, _, _, _, _, _, _, _, _, _, _, by k_is⟩)
    (case xc_InvalidMany => exact ⟨_, _, _, _, _, _, _, _, _, _, _, _, _, _, by k_is⟩)
    (case xc_InvalidNumbers => exact ⟨_, _, _, _, _, _, _, _, _, _, _, _, _, _, by k_is⟩)
    (case pb_Whims_taken => k_is)
    (case pt_Whims_taken => k_is)
    (case pr_Whims_taken => exact ⟨_, by k_is⟩)
    (case mf_Whims => k_is)
    (case l_CoreError___init__ => exact ⟨_, _, _, _, _, _, _, _, _, rfl, by k_is, by k_is⟩)
    (case kp_CoreError___init__ => k_is)
    (case xt_CoreError___init__ => k_is)
    (case l_is_integer => exact ⟨_, _, _, _, _, _, _, _, _, rfl, by k_is, by k_is⟩)
    (case kp_is_integer => k_is)
    (case l_is_count => exact ⟨_, _, _, _, _, _, _, _, _, rfl, by k_is, by k_is⟩)
    (case kp_is_count => k_is)
    (case l_is_list => exact ⟨_, _, _, _, _, _, _, _, _, rfl, by k_is, by k_is⟩)
    (case kp_is_list => k_is)
    (case l_Whims___init__ => exact ⟨_, _, _, _, _, _, _, _, _, rfl, by k_is, by k_is⟩)
    (case kp_Whims___init__ => k_is)
    (case l_Whims_taken => exact ⟨_, _, _, _, _, _, _, _, _, rfl, by k_is, by k_is⟩)
    (case kp_Whims_taken => k_is)
    (case l_Whims_take => exact ⟨_, _, _, _, _, _, _, _, _, rfl, by k_is, by k_is⟩)
    (case kp_Whims_take => k_is)
    (case mb_Whims_take => k_is)
    (case l_Whims_copy => exact ⟨_, _, _, _, _, _, _, _, _, rfl, by k_is, by k_is⟩)
    (case kp_Whims_copy => k_is)
    (case mb_Whims_copy => k_is)
    (case l__law_pot => exact ⟨_, _, _, _, _, _, _, _, _, rfl, by k_is, by k_is⟩)
    (case kp__law_pot => k_is)
    (case l__law_draw => exact ⟨_, _, _, _, _, _, _, _, _, rfl, by k_is, by k_is⟩)
    (case kp__law_draw => k_is)
    (case l__law_pick => exact ⟨_, _, _, _, _, _, _, _, _, rfl, by k_is, by k_is⟩)
    (case kp__law_pick => k_is)
    (case l__law_refused => exact ⟨_, _, _, _, _, _, _, _, _, rfl, by k_is, by k_is⟩)
    (case kp__law_refused => k_is)
    (case l__law_due => exact ⟨_, _, _, _, _, _, _, _, _, rfl, by k_is, by k_is⟩)
    (case kp__law_due => k_is)
    (case l_law => exact ⟨_, _, _, _, _, _, _, _, _, rfl, by k_is, by k_is⟩)
    (case kp_law => k_is)
#print axioms PySem.Challenge.cw_orderlycore_k12_whole_whims_taken_holds
