import PyProof.Rows.All
import Wide.All
import OpenK.AllK
import Wide.FinOn
import HandS.ForMost
import HandS.Evl
import HandS.IsInst
import HandS.ClsMeth
import HandS.Flow
import HandS.TupAny
import HandS.Walk
import HandS.Defaults
import HandS.Deep
import PyProof.ReprReads
import HandS.SlotsOwn
import HandS.MakeKw
import HandS.MakeKwOnly
import HandS.FStr
import HandS.More
import KE.KCallOwn
import PyProof.InstNe
import HandS.ExcInit
import HandS.ExcSuper
import HandS.ExcField
import HandS.ExcIs
import KE.KExcIs
import KE.KIsAll
import KE.KSuper
import KE.KExcSuper
import PyProof.EqKinds
import HandS.Dict
import HandS.SetFor
import HandS.Lambda
import HandS.EndBits
import HandS.EndTab
import HandS.WordsExc
import KE.KNestM
import OpenK.KOps
import KE.KOpsOwn
import HandS.Conv
import KE.BitLaws
import PyProof.Ascii
import PyProof.Rows.ReprOcc
import PyProof.FitsInt
import PyProof.ReprNest
import PyProof.ReprRoads
import HandS.Strs
import HandS.SortInts
import HandS.DictComp
import HandS.GenList
import HandS.Zip
import PyProof.Draws
import PyProof.EnumMake
import KE.GoesMore
import PyProof.ReprLen
import HandS.Property
import HandS.SortRule
import HandS.Style
import PySem.Challenge.RW_keptbits_k10_bits_of_kinds_beside_the_fa
set_option Elab.async false
set_option linter.all false
set_option maxRecDepth 100000
set_option maxHeartbeats 4000000
/-! KB: own helpers over the hand layer: callees bundled, match, readings as steps. -/
namespace KB
open PySem PySem.Spec PyProof.Rows L2

section
variable {X : Cx}
/-! ### callees -/
structure Callee (P : Program) (w : World) (K : PySem.W.Frag) (mg : Str → Option Value) (base : Heap) (CX : CXT) (k : Nat) (x : Str) (ps : List Str) (sp : Sp) : Prop where
  ex : ∃ (f : Addr) (fd : FuncData), FnOk P w K mg base CX k f fd ps sp ∧ mg x = some (.ref f) ∧ PySem.W.keepIn K (.ref f) = true ∧ Binds K fd ps []
structure CalleeM (P : Program) (w : World) (K : PySem.W.Frag) (mg : Str → Option Value) (base : Heap) (CX : CXT) (k : Nat) (C : Addr) (m : Str) (ps : List Str) (sp : Sp) : Prop where
  ex : ∃ (f : Addr) (fd : FuncData), FnOk P w K mg base CX k f fd ps sp ∧ Meth K C m f ∧ Binds K fd ps []
  cl : Cls K C
structure CalleeI (P : Program) (w : World) (K : PySem.W.Frag) (mg : Str → Option Value) (base : Heap) (CX : CXT) (k : Nat) (C : Addr) (x : Str) (ps : List Str) (sp : Sp) : Prop where
  ex : ∃ (f : Addr) (fd : FuncData), FnOk P w K mg base CX k f fd ps sp ∧ Mk K C f ∧ mg x = some (.ref C) ∧ Binds K fd ps []
theorem pe_callC {CX : CXT} {k : Nat} {x : Str} {ps : List Str} {sp : Sp} {E : XK} {e : Expr} {es : List Expr} {p pos : Pos} {t : TA} (c : Callee X.prog X.w X.K X.mg X.base CX k x ps sp) (hr : Room k X.A) (hg : Gl X x) (hx : Passes CX X E) (ha : PA X (e :: es) t)
    (hdb : (x == ("__debug__" : Str)) = false := by decide) (he : starEach (e :: es) X.env = (false, eval e X.env) :: starEach es X.env := by rfl) (hpl : (backTo pos (starEach es X.env)).any (·.1) = false := by rfl) :
    PE X (.Call (.Name x p) (e :: es) [] pos) (tCall sp [] E t) := by
  obtain ⟨f, fd, F, hm, hk, hb⟩ := c.ex
  exact pe_call F hr hg hm hk hb .nil hx ha hdb he hpl
theorem pe_callC0 {CX : CXT} {k : Nat} {x : Str} {ps : List Str} {sp : Sp} {E : XK} {p pos : Pos} (c : Callee X.prog X.w X.K X.mg X.base CX k x ps sp) (hr : Room k X.A) (hg : Gl X x) (hx : Passes CX X E)
    (hdb : (x == ("__debug__" : Str)) = false := by decide) :
    PE X (.Call (.Name x p) [] [] pos) (tCall sp [] E tNil) := by
  obtain ⟨f, fd, F, hm, hk, hb⟩ := c.ex
  exact pe_call0 F hr hg hm hk hb .nil hx hdb
theorem pe_methC {pl : Sem Bool} {CX : CXT} {k : Nat} {C : Addr} {m : Str} {ps : List Str} {sp : Sp} {E : XK} {o e : Expr} {es : List Expr} {apos pos : Pos} {ta : TE} {t : TA} (c : CalleeM X.prog X.w X.K X.mg X.base CX k C m ps sp) (ho : PE X o ta) (hr : Room k X.A) (hx : Passes CX X E) (ha : PA X (e :: es) t)
    (hst : starEach (e :: es) X.env = (false, eval e X.env) :: starEach es X.env := by rfl) (hpl : (backTo pos (starEach es X.env)).any (·.1) = false := by rfl)
    (ht : eval (.Call (.Attribute o m apos) (e :: es) [] pos) X.env = (do
      let ov ← eval o X.env
      standAt apos.atName
      let (f, first) ← holding [ov] (getMethod ov m pl)
      callWith pos f first (backTo pos (starEach (e :: es) X.env)) (backToKw pos (keywordEach [] X.env))) := by rfl) :
    PE X (.Call (.Attribute o m apos) (e :: es) [] pos) (tMeth C m sp [] E ta t) := by
  obtain ⟨f, fd, F, hm, hb⟩ := c.ex
  exact pe_meth ho c.cl hm F hr hb .nil hx ha hst hpl ht
theorem pe_methC0 {pl : Sem Bool} {CX : CXT} {k : Nat} {C : Addr} {m : Str} {ps : List Str} {sp : Sp} {E : XK} {o : Expr} {apos pos : Pos} {ta : TE} (c : CalleeM X.prog X.w X.K X.mg X.base CX k C m ps sp) (ho : PE X o ta) (hr : Room k X.A) (hx : Passes CX X E)
    (ht : eval (.Call (.Attribute o m apos) [] [] pos) X.env = (do
      let ov ← eval o X.env
      standAt apos.atName
      let (f, first) ← holding [ov] (getMethod ov m pl)
      callWith pos f first [] (backToKw pos (keywordEach [] X.env))) := by rfl) :
    PE X (.Call (.Attribute o m apos) [] [] pos) (tMeth C m sp [] E ta tNil) := by
  obtain ⟨f, fd, F, hm, hb⟩ := c.ex
  exact pe_meth0 ho c.cl hm F hr hb .nil hx ht
theorem pe_makeC {CX : CXT} {k : Nat} {C : Addr} {x : Str} {ps : List Str} {sp : Sp} {E : XK} {e : Expr} {es : List Expr} {p pos : Pos} {t : TA} (c : CalleeI X.prog X.w X.K X.mg X.base CX k C x ps sp) (hr : Room (k + 1) X.A) (hg : Gl X x) (hx : Passes CX X E) (ha : PA X (e :: es) t)
    (hdb : (x == ("__debug__" : Str)) = false := by decide) (he : starEach (e :: es) X.env = (false, eval e X.env) :: starEach es X.env := by rfl) (hpl : (backTo pos (starEach es X.env)).any (·.1) = false := by rfl) :
    PE X (.Call (.Name x p) (e :: es) [] pos) (tMake C sp [] E t) := by
  obtain ⟨f, fd, F, M, hm, hb⟩ := c.ex
  exact pe_make M F hr hg hm hb .nil hx ha hdb he hpl

/-- a def with defaults, called without them; called by keywords -/
structure CalleeD (P : Program) (w : World) (K : PySem.W.Frag) (mg : Str → Option Value) (base : Heap) (CX : CXT) (k : Nat) (x : Str) (ps : List Str) (sp : Sp) (dvs : List V) : Prop where
  ex : ∃ (f : Addr) (fd : FuncData) (ds : List Value), FnOk P w K mg base CX k f fd ps sp ∧ mg x = some (.ref f) ∧ PySem.W.keepIn K (.ref f) = true ∧ Binds K fd ps ds ∧ Vals dvs ds
structure CalleeKw (P : Program) (w : World) (K : PySem.W.Frag) (mg : Str → Option Value) (base : Heap) (CX : CXT) (k : Nat) (x : Str) (ps : List Str) (sp : Sp) (n : Nat) (ks : List Str) (gV : List V → List V → List V) : Prop where
  ex : ∃ (f : Addr) (fd : FuncData) (g : List Value → List Value → List Value), FnOk P w K mg base CX k f fd ps sp ∧ mg x = some (.ref f) ∧ PySem.W.keepIn K (.ref f) = true ∧ KBn K fd ps n ks g gV
theorem pe_callD {CX : CXT} {k : Nat} {x : Str} {ps : List Str} {sp : Sp} {dvs : List V} {E : XK} {e : Expr} {es : List Expr} {p pos : Pos} {t : TA} (c : CalleeD X.prog X.w X.K X.mg X.base CX k x ps sp dvs) (hr : Room k X.A) (hg : Gl X x) (hx : Passes CX X E) (ha : PA X (e :: es) t)
    (hdb : (x == ("__debug__" : Str)) = false := by decide) (he : starEach (e :: es) X.env = (false, eval e X.env) :: starEach es X.env := by rfl) (hpl : (backTo pos (starEach es X.env)).any (·.1) = false := by rfl) :
    PE X (.Call (.Name x p) (e :: es) [] pos) (tCall sp dvs E t) := by
  obtain ⟨f, fd, ds, F, hm, hk, hb, hd⟩ := c.ex
  exact pe_call F hr hg hm hk hb hd hx ha hdb he hpl
theorem pe_callKw {CX : CXT} {k n : Nat} {x : Str} {ps ks : List Str} {sp : Sp} {gV : List V → List V → List V} {E : XK} {e : Expr} {es : List Expr} {kws : List Keyword} {p pos : Pos} {t tk : TA} (c : CalleeKw X.prog X.w X.K X.mg X.base CX k x ps sp n ks gV) (hr : Room k X.A) (hg : Gl X x) (hx : Passes CX X E)
    (ha : PA X (e :: es) t) (hkw : PK X kws tk) (hall : (backToKw pos (keywordEach kws X.env)).all (·.1.isSome) = true := by rfl) (hks : (backToKw pos (keywordEach kws X.env)).filterMap (·.1) = ks := by rfl)
    (hdb : (x == ("__debug__" : Str)) = false := by decide) (he : starEach (e :: es) X.env = (false, eval e X.env) :: starEach es X.env := by rfl)
    (hpl : ((backTo pos (starEach (e :: es) X.env)).any (·.1) || (backToKw pos (keywordEach kws X.env)).any (·.1.isNone)) = false := by rfl) :
    PE X (.Call (.Name x p) (e :: es) kws pos) (tCallN n ks.length sp gV E t tk) := by
  obtain ⟨f, fd, g, F, hm, hk, hb⟩ := c.ex
  exact pe_callN F hr hg hm hk hb hx ha hkw hall hks hdb he hpl
theorem hu65 {A : Around} {k : Nat} (hr : Room k A) : A.units + 65 < cLine := by have := hr.un; omega
/-! ### match over written texts -/
structure PM (X : Cx) (cs : List MatchCase) (tm : V → TS) : Prop where
  run : ∀ (pins : List (Addr × Obj)) (s : Shared) (σ : L2.St) (H : Hp) (D : Ends) (v : V) (u : Value) (first : Bool), Inv X pins σ H s → RelV v u → tm v D σ H → wpAny (model X.prog X.w) X.A (matchCases cs X.env u first) (SP X pins D) X.xe s
def tmNil : V → TS := fun _ D σ H => D.nx σ H
def tmStr (x : Str) (t : TS) (tr : V → TS) : V → TS := fun v D σ H => ∃ y, v = .str y ∧ if decide (y = x) = true then t D σ H else tr v D σ H
def tMatch (te : TE) (tm : V → TS) : TS := fun D σ H => te σ H fun x H1 => tm x D σ H1
theorem pm_nil : PM X [] tmNil := ⟨fun _ _ σ H _ _ _ _ I _ h => wpAny_matchCases_nil ⟨σ, H, I, h⟩⟩
theorem pm_str {x : Str} {j : _} {pos pos' : Pos} {body : List Stmt} {rest : List MatchCase} {t : TS} {tr : V → TS} (hb : PSs X body t) (hr : PM X rest tr) : PM X (⟨.MatchValue (.Constant (.str x) j pos) pos', none, body⟩ :: rest) (tmStr x t tr) := by
  refine ⟨fun pins s σ H D v u first I r h => ?_⟩
  obtain ⟨y, rfl, h⟩ := h
  refine wpAny_matchCases_cons (wpAny_matchPattern_Value ?_)
  refine thn (pe_str.run pins s σ H (fun v' H' => v' = .str x ∧ H' = H) I ⟨rfl, rfl⟩) fun u1 s1 ⟨v1, H1, I1, r1, e1, e2⟩ => ?_
  subst e1 e2
  refine thn (op_eq pins s1 σ H1 (.str y) (.str x) u u1 (fun v' H' => v' = .bl (decide (y = x)) ∧ H' = H1) I1 r r1 ⟨rfl, ?_, rfl⟩) fun u2 s2 ⟨v2, H2, I2, r2, e3, e4⟩ => ?_
  · congr 1
    by_cases e : y = x
    · subst e; simp
    · simp [e]
  subst e3 e4
  obtain rfl : u2 = Value.bool (decide (y = x)) := r2
  refine wpAny_truthy_bool ?_
  by_cases e : y = x
  · rw [if_pos (decide_eq_true e)]
    rw [if_pos (decide_eq_true e)] at h
    refine wpAny_assignInOrder_none ?_
    exact hb.run pins s2 σ H2 D I2 h
  · rw [if_neg (by simp [e])]
    rw [if_neg (by simp [e])] at h
    exact hr.run pins s2 σ H2 D _ u false I2 r h
theorem ps_match {e : Expr} {cs : List MatchCase} {pos : Pos} {te : TE} {tm : V → TS} (he : PE X e te) (hm : PM X cs tm) : PS X (.Match e cs pos) (tMatch te tm) := by
  refine ⟨fun pins s σ H D I h => ?_⟩
  refine wpAny_Match (thn (he.run pins s σ H _ I h) fun u s1 ⟨x, H1, I1, r1, q1⟩ => ?_)
  exact hm.run pins s1 σ H1 D x u true I1 r1 q1
end

/-! ### readings as steps -/
def ForW (J : It) (g : TG) (tb : TS) (D : Ends) (σ : L2.St) (H : Hp) : Prop := ∃ W : Nat → Nat → L2.St → Hp → Prop, (∃ m, W 0 m σ H) ∧ ∀ i m σ H, W i m σ H →
      (J.stop i H ∧ D.nx σ H) ∨ (J.go i H ∧ ∃ N : L2.St → Hp → Prop, (∀ σ' H', N σ' H' → ∃ m', m' < m ∧ W (i + 1) m' σ' H') ∧ ∀ x H', J.yld i H x H' → g x σ H' fun σ2 H2 => tb { D with nx := N, ct := N, bk := D.nx } σ2 H2)
def LcW (J : It) (g : TG) (tt : TT) (te : TE) (vs : List Nat) (σ : L2.St) (H1 : Hp) (Q : VK) : Prop := ∀ D, H1 D = none → ∃ W : Nat → Nat → Hp → Prop, (∃ m, W 0 m (upd H1 D (.lst []))) ∧ ∀ i m H, W i m H →
  (J.stop i H ∧ Q (.ref D) H) ∨ (J.go i H ∧ ∃ Nx : Hp → Prop, (∀ H', Nx H' → ∃ m', m' < m ∧ W (i + 1) m' H') ∧ ∀ x H', J.yld i H x H' → g x (wipe σ vs) H' fun σ2 H2 => wipe σ2 vs = wipe σ vs ∧ tt σ2 H2 fun b H3 =>
    if b = true then te σ2 H3 fun y H4 => ∃ acc, H4 D = some (.lst acc) ∧ acc.length < sizeLine ∧ Nx (upd H4 D (.lst (acc ++ [y]))) else Nx H3)
theorem forW {J : It} {n : Nat} {G : Hp → Prop} {Y : Nat → Hp → V → Hp → Prop} (wk : Walk J n G Y) {g : TG} {tb : TS} {D : Ends} {σ : L2.St} {H : Hp} (Pv : Nat → L2.St → Hp → Prop) (h0 : Pv 0 σ H) (hG : ∀ i σ H, i ≤ n → Pv i σ H → G H)
    (hs : ∀ i x σ H H', i < n → Pv i σ H → Y i H x H' → g x σ H' fun σ2 H2 => tb { D with nx := Pv (i + 1), ct := Pv (i + 1), bk := D.nx } σ2 H2) (hd : ∀ σ H, Pv n σ H → D.nx σ H) : ForW J g tb D σ H := for_it wk Pv h0 hG hs hd
section
variable {K : PySem.W.Frag} {σ : L2.St} {H : Hp} {D : Ends} {ta tb tc te : TE} {tA tr : TA} {t u : TT} {t1 t2 tu : TS} {x y v : V} {Q : VK} {QT : Bool → Hp → Prop} {QA : List V → Hp → Prop} {R : It → Hp → Prop} {i : Nat} {a p : Addr} {xs ys : List V}
theorem r_var (h : σ[i]? = some (some v)) (q : Q v H) : tVar i σ H Q := ⟨v, h, q⟩
theorem r_c (q : Q v H) : tC v σ H Q := q
theorem r_op {r : R2} (q : ta σ H fun x H1 => tb σ H1 fun y H2 => r x y H2 Q) : tOp r ta tb σ H Q := q
theorem r_un {r : V → Hp → VK → Prop} (q : ta σ H fun x H1 => r x H1 Q) : tUn r ta σ H Q := q
theorem r_I0 {g : Int → Int → V} {m n : Int} (q : Q (g m n) H) : rI0 g (.int m) (.int n) H Q := ⟨m, n, rfl, rfl, q⟩
theorem r_I {C : Int → Int → Prop} {g : Int → Int → V} {m n : Int} (hc : C m n) (q : Q (g m n) H) : rI C g (.int m) (.int n) H Q := ⟨m, n, rfl, rfl, hc, q⟩
theorem r_U {g : Int → V} {m : Int} (q : Q (g m) H) : rU g (.int m) H Q := ⟨m, rfl, q⟩
theorem r_eq (h : scal x y = true) (q : Q (.bl (decide (x = y))) H) : rEq x y H Q := ⟨h, q⟩
theorem r_ne (h : scal x y = true) (q : Q (.bl (!decide (x = y))) H) : rNe x y H Q := ⟨h, q⟩
theorem r_test (q : te σ H fun x H' => ∃ k, x = .bl k ∧ QT k H') : tTest te σ H QT := q
theorem r_B (q : te σ H fun x H' => ∃ k, x = .bl k ∧ QT k H') : tB te σ H QT := q
theorem r_bl {b : Bool} {q : Bool → Prop} (h : q b) : ∃ k, V.bl b = .bl k ∧ q k := ⟨b, rfl, h⟩
theorem r_and (q : t σ H fun c H1 => if c = true then u σ H1 QT else QT false H1) : tAnd t u σ H QT := q
theorem r_or (q : t σ H fun c H1 => if c = true then QT true H1 else u σ H1 QT) : tOr t u σ H QT := q
theorem r_not (q : t σ H fun c H1 => QT (!c) H1) : tNot t σ H QT := q
theorem r_andV (q : ta σ H fun x H1 => ∃ c, x = .bl c ∧ if c = true then tb σ H1 Q else Q (.bl false) H1) : tAndV ta tb σ H Q := q
theorem r_orV (q : ta σ H fun x H1 => ∃ c, x = .bl c ∧ if c = true then Q (.bl true) H1 else tb σ H1 Q) : tOrV ta tb σ H Q := q
theorem r_notV (q : ta σ H fun x H1 => ∃ c, x = .bl c ∧ Q (.bl (!c)) H1) : tNotV ta σ H Q := q
theorem r_if (q : t σ H fun c H1 => if c = true then ta σ H1 Q else tb σ H1 Q) : tIf t ta tb σ H Q := q
theorem r_nil (q : QA [] H) : tNil σ H QA := q
theorem r_cons (q : ta σ H fun x H1 => tr σ H1 fun xs H2 => QA (x :: xs) H2) : tCons ta tr σ H QA := q
theorem r_tup (q : tA σ H fun xs H1 => xs.length ≤ sizeLine ∧ ∀ p, H1 p = none → Q (.ref p) (upd H1 p (.tup xs))) : tTup tA σ H Q := q
theorem r_lst (q : tA σ H fun xs H1 => xs.length ≤ sizeLine ∧ ∀ p, H1 p = none → Q (.ref p) (upd H1 p (.lst xs))) : tLst tA σ H Q := q
theorem r_call {sp : Sp} {E : XK} (q : tA σ H fun vs H1 => sp (vs ++ []) H1 Q E) : tCall sp [] E tA σ H Q := q
theorem r_cb {r : List V → Hp → VK → Prop} (q : tA σ H fun vs H1 => r vs H1 Q) : tCB r tA σ H Q := q
theorem r_ixL {n : Int} (h : SqL K H p xs) (ha : atI xs n = some v) (q : Q v H) : rIxL K (.ref p) (.int n) H Q := ⟨p, xs, n, v, rfl, rfl, h, ha, q⟩
theorem r_ixT {n : Int} (h : SqT K H p xs) (ha : atI xs n = some v) (q : Q v H) : rIxT K (.ref p) (.int n) H Q := ⟨p, xs, n, v, rfl, rfl, h, ha, q⟩
theorem r_ixS {z : Str} {n : Int} {c : Nat} (hz : z.length ≤ sizeLine) (ha : atI z.cps.toList n = some c) (q : Q (.str ⟨#[c]⟩) H) : rIxS (.str z) (.int n) H Q := ⟨z, n, c, rfl, rfl, hz, ha, q⟩
theorem r_setL {n : Int} {j : Nat} {QH : Hp → Prop} (h : H p = some (.lst xs)) (hj : ixN xs.length n = some j) (q : QH (upd H p (.lst (xs.set j v)))) : rSetL (.ref p) (.int n) v H QH := ⟨p, xs, n, j, rfl, rfl, h, hj, q⟩
theorem r_fld {f : Str} (q : ta σ H fun x H1 => ∃ a C dx fs v, x = .ref a ∧ H1 a = some (.ins C dx fs) ∧ Cls K C ∧ NoAttr K C f ∧ fs.lookup f = some v ∧ Q v H1) : tFld K ta f σ H Q := q
theorem r_meth {C : Addr} {m : Str} {sp : Sp} {E : XK} (q : ta σ H fun x H1 => ∃ a dx fs, x = .ref a ∧ H1 a = some (.ins C dx fs) ∧ fs.lookup m = none ∧ tA σ H1 fun vs H2 => sp (x :: (vs ++ [])) H2 Q E) : tMeth C m sp [] E ta tA σ H Q := q
theorem r_cval {C : Addr} {mc : Value} {f : Str} {uu : Value} (h1 : ClX.CRead K C mc) (h2 : ClX.CVal K C mc f v uu) (q : Q v H) : ClX.tCVal K (tC (.ref C)) f σ H Q := ⟨C, mc, v, uu, rfl, h1, h2, q⟩
theorem r_fldV {C dx : Addr} {fs : List (Str × V)} {f : Str} (hp : H a = some (.ins C dx fs)) (hc : Cls K C) (hn : NoAttr K C f) (hl : fs.lookup f = some v) (hv : σ[i]? = some (some (.ref a))) (q : Q v H) : tFld K (tVar i) f σ H Q := ⟨.ref a, hv, a, C, dx, fs, v, rfl, hp, hc, hn, hl, q⟩
theorem r_sfld {f : Str} {tv : TE} (q : tv σ H fun y H1 => ta σ H1 fun x H2 => ∃ a C dx fs, x = .ref a ∧ H2 a = some (.ins C dx fs) ∧ Cls K C ∧ NoAttr K C f ∧ fs.length < 1000 ∧ D.nx σ (upd H2 a (.ins C dx (putF f y fs)))) : sFld K ta tv f D σ H := q
theorem r_itup (q : te σ H fun x H1 => ∃ a, x = .ref a ∧ (∃ xs, SqT K H1 a xs) ∧ R (Itt K a) H1) : iTup K te σ H R := q
theorem r_ilist (q : te σ H fun x H1 => ∃ a, x = .ref a ∧ (∃ xs, SqL K H1 a xs) ∧ R (Itl K a) H1) : iList K te σ H R := q
theorem r_istr (q : te σ H fun v H1 => ∃ x, v = .str x ∧ R (Its x) H1) : iStr te σ H R := q
theorem r_m1 {r : V → List V → Hp → VK → Prop} (q : ta σ H fun x H1 => (∃ a, x = .str a) ∧ te σ H1 fun y H2 => r x [y] H2 Q) : tM1 r ta te σ H Q := q
theorem r_m0 {r : V → List V → Hp → VK → Prop} (q : ta σ H fun x H1 => (∃ a, x = .str a) ∧ r x [] H1 Q) : tM0 r ta σ H Q := q
theorem r_isStr {z : Str} {B : Prop} (g : B) : (∃ a, V.str z = .str a) ∧ B := ⟨⟨z, rfl⟩, g⟩
theorem r_exStr {z : Str} {q : Str → Prop} (g : q z) : ∃ x, V.str z = .str x ∧ q x := ⟨z, rfl, g⟩
theorem r_gname {QG : L2.St → Hp → Prop} (q : QG (σ.set i (some v)) H) : gName i v σ H QG := q
theorem r_callD {sp : Sp} {dvs : List V} {E : XK} (q : tA σ H fun vs H1 => sp (vs ++ dvs) H1 Q E) : tCall sp dvs E tA σ H Q := q
theorem r_callN {n m : Nat} {sp : Sp} {gV : List V → List V → List V} {E : XK} {tk : TA} (q : tA σ H fun vs H1 => tk σ H1 fun zs H2 => vs.length = n ∧ zs.length = m ∧ sp (gV vs zs) H2 Q E) : tCallN n m sp gV E tA tk σ H Q := q
theorem r_dget1 (q : ta σ H fun x H1 => ∃ a, x = .ref a ∧ IsD H1 a ∧ tb σ H1 fun y H2 => ∃ o, DGet H2 a y o ∧ Q (o.getD .non) H2) : tDGet1 ta tb σ H Q := q
theorem r_dget (q : ta σ H fun x H1 => tb σ H1 fun y H2 => ∃ a v, x = .ref a ∧ DGet H2 a y (some v) ∧ Q v H2) : tDGet ta tb σ H Q := q
theorem r_disp {trs : List (TE × TE)} (q : ∀ p, H p = none → tPairs trs σ (upd H p (.dK [])) fun ps H2 => H2 p = some (.dK []) ∧ ∃ kvs : List (Key × V), ps = kvs.map (fun kv => (kV kv.1, kv.2)) ∧ kvs.length ≤ 15 ∧ Q (.ref p) (upd H2 p (.dK (mergeK [] kvs)))) : tDisp trs σ H Q := q
theorem r_pairs {trs : List (TE × TE)} {QP : List (V × V) → Hp → Prop} (q : ta σ H fun x H1 => tb σ H1 fun y H2 => tPairs trs σ H2 fun ps H3 => QP ((x, y) :: ps) H3) : tPairs ((ta, tb) :: trs) σ H QP := q
theorem r_pairs0 {QP : List (V × V) → Hp → Prop} (q : QP [] H) : tPairs [] σ H QP := q
theorem r_fldK {C dx : Addr} {fs : List (Str × V)} {f : Str} {G : V → Prop} (hp : H p = some (.ins C dx fs)) (hc : Cls K C) (hn : NoAttr K C f) (hl : fs.lookup f = some v) (q : G v) :
    ∃ a C dx fs v, V.ref p = .ref a ∧ H a = some (.ins C dx fs) ∧ Cls K C ∧ NoAttr K C f ∧ fs.lookup f = some v ∧ G v := ⟨p, C, dx, fs, v, rfl, hp, hc, hn, hl, q⟩
theorem r_gtup {n : Nat} {gs : TGs} {QG : L2.St → Hp → Prop} (h : SqT K H a xs) (hn : xs.length = n) (q : gs xs σ H QG) : gTup K n gs (.ref a) σ H QG := ⟨a, xs, rfl, h, hn, q⟩
theorem r_gcons {g : TG} {gs : TGs} {QG : L2.St → Hp → Prop} (q : g v σ H fun σ' H' => gs xs σ' H' QG) : gCons g gs (v :: xs) σ H QG := ⟨v, xs, rfl, q⟩
theorem r_gnil {QG : L2.St → Hp → Prop} (q : QG σ H) : gNil [] σ H QG := ⟨rfl, q⟩
theorem r_asgG {g : TG} (q : te σ H fun x H1 => g x σ H1 D.nx) : tAsg te g D σ H := q
theorem r_rng2 {m n : Int} {q : Int → Int → Prop} (h : q m n) : ∃ i j : Int, [V.int m, V.int n] = [.int i, .int j] ∧ q i j := ⟨m, n, rfl, h⟩
theorem r_irng2 (q : tA σ H fun vs H1 => ∃ i j : Int, vs = [.int i, .int j] ∧ (-(2 ^ 62) ≤ i ∧ i < 2 ^ 62 ∧ -(2 ^ 62) ≤ j ∧ j < 2 ^ 62) ∧ R (Itr i (j - i).toNat) H1) : iRng2 tA σ H R := q
theorem r_cat {p' : Addr} (h : H p = some (.lst xs)) (h' : H p' = some (.lst ys)) (hl : xs.length + ys.length ≤ sizeLine) (g : ∀ c, H c = none → Q (.ref c) (upd H c (.lst (xs ++ ys)))) : rCat (.ref p) (.ref p') H Q := ⟨p, p', xs, ys, rfl, rfl, h, h', hl, g⟩
theorem r_bm {T : String} {r : V → List V → Hp → VK → Prop} (q : ta σ H fun x H1 => tyV K T x H1 ∧ tA σ H1 fun xs H2 => r x xs H2 Q) : tBM K T r ta tA σ H Q := q
theorem r_tyL {B : Prop} (h : SqL K H p xs) (g : B) : tyV K "list" (.ref p) H ∧ B := ⟨.inl ⟨rfl, xs, h⟩, g⟩
theorem r_append (h : H p = some (.lst xs)) (hl : xs.length < sizeLine) (q : Q .non (upd H p (.lst (xs ++ [v])))) : rAppend (.ref p) [v] H Q := ⟨p, xs, v, rfl, rfl, h, hl, q⟩
theorem r_seq (q : t1 { D with nx := t2 D } σ H) : tSeq t1 t2 D σ H := q
theorem r_next (q : D.nx σ H) : tNext D σ H := q
theorem r_asg (q : te σ H fun x H1 => D.nx (σ.set i (some x)) H1) : tAsg te (gName i) D σ H := q
theorem r_asgS {s : TSet} (q : te σ H fun v H1 => ta σ H1 fun o H2 => tb σ H2 fun i H3 => s o i v H3 fun H4 => D.nx σ H4) : tAsg te (gSub ta tb s) D σ H := q
theorem r_ifS (q : t σ H fun b H1 => if b = true then t1 D σ H1 else t2 D σ H1) : tIfS t t1 t2 D σ H := q
theorem r_dput (q : tc σ H fun v H1 => ta σ H1 fun x H2 => tb σ H2 fun y H3 => ∃ a H4, x = .ref a ∧ DPut H3 a y v H4 ∧ D.nx σ H4) : sDPut ta tb tc D σ H := q
theorem r_ret (q : te σ H D.rt) : tRet te D σ H := q
theorem r_drop (q : te σ H fun _ H1 => D.nx σ H1) : tDrop te D σ H := q
theorem r_par {k j : Nat} (q : tA σ H fun vs H1 => ∃ v w, vs = [v, w] ∧ D.nx ((σ.set k (some v)).set j (some w)) H1) : tPar k j tA D σ H := q
theorem r_aug {tip : TIp} (h : σ[i]? = some (some x)) (q : te σ H fun y H1 => tip x y H1 fun z H2 => D.nx (σ.set i (some z)) H2) : tAug i te tip D σ H := ⟨x, h, q⟩
theorem r_match {tm : V → TS} (q : te σ H fun x H1 => tm x D σ H1) : tMatch te tm D σ H := q
theorem r_mstr {x y : Str} {tm : V → TS} (q : if decide (y = x) = true then t1 D σ H else tm (.str y) D σ H) : tmStr x t1 tm (.str y) D σ H := ⟨y, rfl, q⟩
theorem r_mnil (q : D.nx σ H) : tmNil v D σ H := q
theorem r_sl {r : V → Option Int → Option Int → Hp → VK → Prop} {tl th : TO} (q : te σ H fun x H1 => tl σ H1 fun l H2 => th σ H2 fun u H3 => r x l u H3 Q) : tSl r te tl th σ H Q := q
theorem r_nopart {QO : Option Int → Hp → Prop} (q : QO none H) : tNoPart σ H QO := q
theorem r_part {QO : Option Int → Hp → Prop} (q : te σ H fun x H1 => ∃ i, x = .int i ∧ QO (some i) H1) : tPart te σ H QO := q
theorem r_int {m : Int} {q : Int → Prop} (h : q m) : ∃ k, V.int m = .int k ∧ q k := ⟨m, rfl, h⟩
theorem r_int1 {m : Int} {q : Int → Prop} {B : Prop} (h : q m) : (∃ i, [V.int m] = [V.int i] ∧ q i) ∨ B := .inl ⟨m, rfl, h⟩
theorem r_bl1 {b : Bool} {q : Bool → Prop} {A : Prop} (h : q b) : A ∨ ∃ k, [V.bl b] = [V.bl k] ∧ q k := .inr ⟨b, rfl, h⟩
theorem r_ex1 {m : Int} {q : Int → Prop} (h : q m) : ∃ i, [V.int m] = [V.int i] ∧ q i := ⟨m, rfl, h⟩
theorem r_ex2 {m n : Int} {q : Int → Int → Prop} (h : q m n) : ∃ i j, [V.int m, V.int n] = [V.int i, V.int j] ∧ q i j := ⟨m, n, rfl, h⟩
theorem r_lenS {q : List V → Prop} (h : SqL K H p xs) (g : q xs) : ∃ a ys, [V.ref p] = [V.ref a] ∧ (SqL K H a ys ∨ SqT K H a ys) ∧ q ys := ⟨p, xs, rfl, .inl h, g⟩
theorem r_slL {lo hi : Option Int} (h : SqL K H p xs) (q : ∀ c, H c = none → Q (.ref c) (upd H c (.lst (cutV xs lo hi)))) : rSlL K (.ref p) lo hi H Q := ⟨p, xs, rfl, h, q⟩
theorem r_for {wi : TI} {g : TG} (q : wi σ H fun J H1 => ForW J g t1 D σ H1) : tFor wi g t1 D σ H := q
theorem r_lc {wi : TI} {g : TG} {tt : TT} {vs : List Nat} (q : wi σ H fun J H1 => LcW J g tt te vs σ H1 Q) : tLc wi g tt te vs σ H Q := q
theorem r_irng1 (q : tA σ H fun vs H1 => ∃ j : Int, vs = [.int j] ∧ -(2 ^ 62) ≤ j ∧ j < 2 ^ 62 ∧ R (Itr 0 j.toNat) H1) : iRng1 tA σ H R := q
theorem r_iteT {c : Prop} [Decidable c] {A B : Prop} (h : c) (q : A) : if decide c = true then A else B := by rw [if_pos (decide_eq_true h)]; exact q
theorem r_iteF {c : Prop} [Decidable c] {A B : Prop} (h : ¬ c) (q : B) : if decide c = true then A else B := by rw [if_neg (by simpa using h)]; exact q
theorem r_iteNT {c : Prop} [Decidable c] {A B : Prop} (h : ¬ c) (q : A) : if (!decide c) = true then A else B := by rw [if_pos (by simpa using h)]; exact q
theorem r_iteNF {c : Prop} [Decidable c] {A B : Prop} (h : c) (q : B) : if (!decide c) = true then A else B := by rw [if_neg (by simpa using h)]; exact q
theorem ite_join {c : Prop} [Decidable c] (Z : VK) (h1 : c → ∀ Q : VK, (∀ v H', Z v H' → Q v H') → ta σ H Q) (h2 : ¬ c → ∀ Q : VK, (∀ v H', Z v H' → Q v H') → tb σ H Q) (q : ∀ v H', Z v H' → Q v H') : if decide c = true then ta σ H Q else tb σ H Q := by
  by_cases h : c
  · rw [if_pos (decide_eq_true h)]; exact h1 h Q q
  · rw [if_neg (by simpa using h)]; exact h2 h Q q
theorem r_make {C : Addr} {sp : Sp} {E : XK} (q : tA σ H fun vs H1 => ∀ x dx, H1 x = none → H1 dx = none → dx ≠ x → sp (.ref x :: (vs ++ [])) (upd (upd H1 dx (.own x)) x (.ins C dx [])) (fun v H2 => v = .non ∧ Q (.ref x) H2) E) : tMake C sp [] E tA σ H Q := q
theorem r_addS {m n : Str} {q : Str → Str → Prop} (h : m.length + n.length ≤ sizeLine) (g : q m n) : ∃ i j, V.str m = .str i ∧ V.str n = .str j ∧ i.length + j.length ≤ sizeLine ∧ q i j := ⟨m, n, rfl, rfl, h, g⟩
theorem iteNt {A B : Prop} (h : B) : if (!true) = true then A else B := h
theorem iteNf {A B : Prop} (h : A) : if (!false) = true then A else B := h
theorem r_ite2 {c : Prop} [Decidable c] {A B : Prop} (h1 : c → A) (h2 : ¬ c → B) : if decide c = true then A else B := by
  by_cases h : c
  · exact r_iteT h (h1 h)
  · exact r_iteF h (h2 h)
theorem r_iteN2 {c : Prop} [Decidable c] {A B : Prop} (h1 : ¬ c → A) (h2 : c → B) : if (!decide c) = true then A else B := by
  by_cases h : c
  · exact r_iteNF h (h2 h)
  · exact r_iteNT h (h1 h)
end

theorem at_start {t : TS} {D : Ends} {σ σ0 : L2.St} {H : Hp} (h : σ0 = σ) (q : t D σ H) : t D σ0 H := h ▸ q
theorem cx_K {CX : CXT} {P : Program} {w : World} {K : PySem.W.Frag} {mg : Str → Option Value} {base : Heap} {N : List Str} {qual : Str} {sc : Scope} {f : Addr} {cd : Value} {A : Around} {outer : List Env} {s : Shared} {H : Hp} {E : XK} : (cxOf CX P w K mg base N qual sc f cd A outer s H E).nox.K = K := rfl
theorem mul_bd {x y A B : Int} (h0 : 0 ≤ x) (h1 : x ≤ A) (h2 : 0 ≤ y) (h3 : y ≤ B) : 0 ≤ x * y ∧ x * y ≤ A * B := ⟨Int.mul_nonneg h0 h2, Int.mul_le_mul h1 h3 h2 (Int.le_trans h0 h1)⟩
/-! ### flat lists compared -/
theorem dp_ints {K : PySem.W.Frag} {H : Hp} : ∀ ns : List Int, DpAll K H (ns.map V.int) (ns.map PyData.int)
  | [] => .nil
  | n :: r => .cons (.int n) (dp_ints r)
theorem lay_ints : ∀ ns : List Int, PyData.canLayAll0 (ns.map PyData.int) = true
  | [] => rfl
  | n :: r => by
    show (PyData.canLay0 (.int n) && PyData.canLayAll0 (r.map PyData.int)) = true
    rw [lay_ints r]; rfl
theorem depth_ints : ∀ ns : List Int, PyData.depthAll (ns.map PyData.int) = 0
  | [] => rfl
  | n :: r => by
    show max (PyData.depth (.int n)) (PyData.depthAll (r.map PyData.int)) = 0
    rw [depth_ints r]; rfl
theorem shaped_ints (ns : List Int) : SeqAt.shaped (.list (ns.map PyData.int)) = true := by
  show (PyData.canLayAll0 (ns.map PyData.int) && decide (PyData.depthAll (ns.map PyData.int) + 1 ≤ 64)) = true
  rw [lay_ints, depth_ints]; rfl
theorem eqv_ints : ∀ ns ms : List Int, PyData.eqvAll (ns.map PyData.int) (ms.map PyData.int) = decide (ns = ms)
  | [], [] => rfl
  | [], _ :: _ => rfl
  | _ :: _, [] => rfl
  | n :: r, m :: q => by
    show ((n == m) && PyData.eqvAll (r.map PyData.int) (q.map PyData.int)) = decide (n :: r = m :: q)
    rw [eqv_ints r q]
    by_cases h1 : n = m <;> by_cases h2 : r = q <;> simp [h1, h2]
theorem eqT_shaped (ns : List Int) : SeqAt.shaped (.tuple (ns.map PyData.int)) = true := by
  show (PyData.canLayAll0 (ns.map PyData.int) && decide (PyData.depthAll (ns.map PyData.int) + 1 ≤ 64)) = true
  rw [lay_ints, depth_ints]; rfl
theorem r_neIntsT {K : PySem.W.Frag} {H : Hp} {Q : VK} {a b : Addr} {ns ms : List Int} (h : SqT K H a (ns.map V.int)) (h' : SqT K H b (ms.map V.int)) (q : Q (.bl (!decide (ns = ms))) H) : rNeD K (.ref a) (.ref b) H Q :=
  ⟨_, _, .tup h (dp_ints ns), .tup h' (dp_ints ms), eqT_shaped ns, eqT_shaped ms, (show Q (.bl (!PyData.eqvAll (ns.map PyData.int) (ms.map PyData.int))) H by rw [eqv_ints]; exact q)⟩
theorem r_eqInts {K : PySem.W.Frag} {H : Hp} {Q : VK} {a b : Addr} {ns ms : List Int} (h : SqL K H a (ns.map V.int)) (h' : SqL K H b (ms.map V.int)) (q : Q (.bl (decide (ns = ms))) H) : rEqD K (.ref a) (.ref b) H Q :=
  ⟨_, _, .lst h (dp_ints ns), .lst h' (dp_ints ms), shaped_ints ns, shaped_ints ms, (show Q (.bl (PyData.eqvAll (ns.map PyData.int) (ms.map PyData.int))) H by rw [eqv_ints]; exact q)⟩
theorem r_neInts {K : PySem.W.Frag} {H : Hp} {Q : VK} {a b : Addr} {ns ms : List Int} (h : SqL K H a (ns.map V.int)) (h' : SqL K H b (ms.map V.int)) (q : Q (.bl (!decide (ns = ms))) H) : rNeD K (.ref a) (.ref b) H Q :=
  ⟨_, _, .lst h (dp_ints ns), .lst h' (dp_ints ms), shaped_ints ns, shaped_ints ms, (show Q (.bl (!PyData.eqvAll (ns.map PyData.int) (ms.map PyData.int))) H by rw [eqv_ints]; exact q)⟩
theorem inV_strs {z : Str} : ∀ zs : List Str, inV (.str z) (zs.map V.str) = decide (z ∈ zs)
  | [] => by simp [inV]
  | y :: r => by
    have ih := inV_strs (z := z) r
    unfold inV at ih ⊢
    rw [List.map_cons, List.any_cons, ih]
    show (decide (y = z) || decide (z ∈ r)) = decide (z ∈ y :: r)
    by_cases e : y = z
    · subst e; simp
    · have e' : ¬ z = y := fun q => e q.symm
      simp [e, e']
theorem inV_ints {z : Int} : ∀ zs : List Int, inV (.int z) (zs.map V.int) = decide (z ∈ zs)
  | [] => by simp [inV]
  | y :: r => by
    have ih := inV_ints (z := z) r
    unfold inV at ih ⊢
    rw [List.map_cons, List.any_cons, ih]
    show ((y == z) || decide (z ∈ r)) = decide (z ∈ y :: r)
    by_cases e : y = z
    · subst e; simp
    · have e' : ¬ z = y := fun q => e q.symm
      simp [e, e']
theorem flat_ints : ∀ zs : List Int, (zs.map V.int).all flatV = true
  | [] => rfl
  | y :: r => by rw [List.map_cons, List.all_cons, flat_ints r]; rfl
theorem r_notInI {K : PySem.W.Frag} {H : Hp} {Q : VK} {p : Addr} {z : Int} {zs : List Int} (h : SqL K H p (zs.map V.int) ∨ SqT K H p (zs.map V.int)) (q : Q (.bl (!decide (z ∈ zs))) H) : rIn K true (.int z) (.ref p) H Q :=
  ⟨p, _, rfl, h, rfl, flat_ints zs, (show Q (.bl (!inV (.int z) (zs.map V.int))) H by rw [inV_ints]; exact q)⟩
theorem r_inI {K : PySem.W.Frag} {H : Hp} {Q : VK} {p : Addr} {z : Int} {zs : List Int} (h : SqL K H p (zs.map V.int) ∨ SqT K H p (zs.map V.int)) (q : Q (.bl (decide (z ∈ zs))) H) : rIn K false (.int z) (.ref p) H Q :=
  ⟨p, _, rfl, h, rfl, flat_ints zs, (show Q (.bl (inV (.int z) (zs.map V.int))) H by rw [inV_ints]; exact q)⟩
theorem flat_strs : ∀ zs : List Str, (zs.map V.str).all flatV = true
  | [] => rfl
  | y :: r => by rw [List.map_cons, List.all_cons, flat_strs r]; rfl
theorem r_notInS {K : PySem.W.Frag} {H : Hp} {Q : VK} {p : Addr} {z : Str} {zs : List Str} (h : SqL K H p (zs.map V.str) ∨ SqT K H p (zs.map V.str)) (q : Q (.bl (!decide (z ∈ zs))) H) : rIn K true (.str z) (.ref p) H Q :=
  ⟨p, _, rfl, h, rfl, flat_strs zs, (show Q (.bl (!inV (.str z) (zs.map V.str))) H by rw [inV_strs]; exact q)⟩
theorem r_inS {K : PySem.W.Frag} {H : Hp} {Q : VK} {p : Addr} {z : Str} {zs : List Str} (h : SqL K H p (zs.map V.str) ∨ SqT K H p (zs.map V.str)) (q : Q (.bl (decide (z ∈ zs))) H) : rIn K false (.str z) (.ref p) H Q :=
  ⟨p, _, rfl, h, rfl, flat_strs zs, (show Q (.bl (inV (.str z) (zs.map V.str))) H by rw [inV_strs]; exact q)⟩
/-! ### heaps -/
theorem upd_new {H : Hp} {a p : Addr} {o u : HO} (hn : H p = none) (h : H a = some u) : upd H p o a = some u := by rw [upd_ne (ne_of_none h hn)]; exact h
theorem same_new {H : Hp} {p : Addr} {o : HO} (hn : H p = none) : Same H (upd H p o) := fun _ _ e => upd_new hn e
theorem Same.up {H H' : Hp} {a : Addr} {o : HO} (s : Same H H') (h : H a = some o) : H' a = some o := s a o h
theorem same_mut {H H' : Hp} {p : Addr} {o : HO} (s : Same H H') (hn : H p = none) : Same H (upd H' p o) := fun _ _ e => by rw [upd_ne (ne_of_none e hn)]; exact s _ _ e
theorem same_seqT {K : PySem.W.Frag} {H H' : Hp} {a : Addr} {xs : List V} (e : Same H H') (h : SqT K H a xs) : SqT K H' a xs := by
  rcases h with (h | ⟨o, h⟩) | h
  · exact .inl (.inl (e _ _ h))
  · exact .inl (.inr ⟨o, e _ _ h⟩)
  · exact .inr h
theorem small1000' {n : Nat} (h : n ≤ 10000) : n < sizeLine := Nat.lt_of_le_of_lt h (by decide)
/-- a comprehension whose test and element are pure -/
theorem lc_all {J : It} {n : Nat} {G : Hp → Prop} {Y : Nat → Hp → V → Hp → Prop} (wk : Walk J n G Y) {tt : TT} {te : TE} {vs : List Nat} {σ : L2.St} {H1 : Hp} {Q : VK} {j : Nat} (yv : Nat → V) (f : Nat → Bool) (v : Nat → V) (hn : n ≤ 10000)
    (hY : ∀ i H x H', i < n → Y i H x H' → H' = H ∧ x = yv i) (hG : ∀ H', Same H1 H' → G H') (hw : ∀ x, wipe ((wipe σ vs).set j (some x)) vs = wipe σ vs)
    (ht : ∀ i H', i < n → Same H1 H' → ∀ QT : Bool → Hp → Prop, (∀ H2, Same H' H2 → QT (f i) H2) → tt ((wipe σ vs).set j (some (yv i))) H' QT)
    (he : ∀ i H', i < n → f i = true → Same H1 H' → ∀ Q : VK, (∀ H2, Same H' H2 → Q (v i) H2) → te ((wipe σ vs).set j (some (yv i))) H' Q)
    (hd : ∀ D H', H1 D = none → Same H1 H' → H' D = some (.lst (Evl.given n f v)) → Q (.ref D) H') :
    LcW J (gName j) tt te vs σ H1 Q := by
  intro D hD
  refine lc_it wk (Qd := fun H => Q (.ref D) H) (fun i H => Same H1 H ∧ H D = some (.lst (Evl.given i f v))) ⟨same_new hD, upd_same⟩ (fun i H _ p => hG H p.1) (fun i x H H' hi p y => ?_) (fun H p => hd D H hD p.1 p.2)
  obtain ⟨rfl, rfl⟩ := hY i H x H' hi y
  refine ⟨hw _, ?_⟩
  refine ht i _ hi p.1 _ fun H2 s2 => ?_
  cases e : f i with
  | true =>
    refine iteT ?_
    refine he i H2 hi e (p.1.trans s2) _ fun H3 s3 => ?_
    refine ⟨_, s3 _ _ (s2 _ _ p.2), small1000' (Nat.le_trans (Evl.given_len i f v) (by omega)), same_mut ((p.1.trans s2).trans s3) hD, ?_⟩
    rw [upd_same, Evl.given_yes e]
  | false =>
    refine iteF ?_
    refine ⟨p.1.trans s2, ?_⟩
    rw [s2 _ _ p.2, Evl.given_no e]
theorem range_get {α : Type} (xs : List α) (d : α) : (List.range xs.length).map (fun i => xs.getD i d) = xs := by
  refine List.ext_getElem (by simp) fun i h1 h2 => ?_
  simp [List.getElem?_eq_getElem h2]
theorem given_filter {α : Type} (xs : List α) (d : α) (p : α → Bool) (g : α → V) : Evl.given xs.length (fun i => p (xs.getD i d)) (fun i => g (xs.getD i d)) = (xs.filter p).map g := by
  unfold Evl.given
  have e := range_get xs d
  have h2 : (List.range xs.length).filter (fun i => p (xs.getD i d)) = (List.range xs.length).filter (p ∘ fun i => xs.getD i d) := rfl
  have h3 : ((List.range xs.length).filter (p ∘ fun i => xs.getD i d)).map (g ∘ fun i => xs.getD i d) = (xs.filter p).map g := by
    rw [← List.map_map, ← List.filter_map, e]
  exact h3
theorem given_map {α : Type} (xs : List α) (d : α) (g : α → V) : Evl.given xs.length (fun _ => true) (fun i => g (xs.getD i d)) = xs.map g := by
  have h := given_filter xs d (fun _ => true) g
  rw [List.filter_eq_self.mpr (fun _ _ => rfl)] at h
  exact h
theorem atI_map {α : Type} {xs : List α} {g : α → V} {r : Int} (h0 : 0 ≤ r) (h1 : r < (xs.length : Int)) : ∃ x ∈ xs, atI (xs.map g) r = some (g x) := by
  obtain ⟨n, rfl⟩ : ∃ n : Nat, r = (n : Int) := ⟨r.toNat, by omega⟩
  have hl : n < xs.length := by omega
  refine ⟨xs[n], List.getElem_mem hl, ?_⟩
  exact atI_nat (by simp [hl])
theorem YAt_get {α : Type} {xs : List α} {d : α} {g : α → V} {i : Nat} {H : Hp} {x : V} {H' : Hp} (hi : i < (xs.map g).length) (y : YAt (xs.map g) i H x H') : H' = H ∧ x = g (xs.getD i d) := by
  obtain ⟨rfl, e⟩ := y
  refine ⟨rfl, ?_⟩
  have hl : i < xs.length := by simpa using hi
  rw [List.getElem?_map, List.getElem?_eq_getElem hl] at e
  have e' : g xs[i] = x := Option.some.inj e
  rw [← e', List.getD_eq_getElem?_getD, List.getElem?_eq_getElem hl]
  rfl
theorem r_isiS {K : PySem.W.Frag} {H : Hp} {Q : VK} {z : Str} (q : Q (.bl true) H) : rIsi K [.str z, .ty "str"] H Q := ⟨_, _, .type "str", _, _, rfl, .ty _, .base (.str z), kit_ty (by decide +kernel), q⟩
theorem cutV_take (xs : List V) (n : Nat) : cutV xs none (some (n : Int)) = xs.take n := by
  unfold cutV
  rw [HT.sIx_none, HT.sIx_nat]
  simp only [List.drop_zero, Nat.sub_zero]
  by_cases h : n ≤ xs.length
  · rw [Nat.min_eq_left h]
  · rw [Nat.min_eq_right (by omega), List.take_length, List.take_of_length_le (by omega)]
theorem decI {a b : Int} : decide (V.int a = V.int b) = decide (a = b) := by
  by_cases h : a = b
  · rw [h]; simp
  · rw [decide_eq_false h, decide_eq_false fun z => h (V.int.inj z)]
theorem decS {a b : Str} : decide (V.str a = V.str b) = decide (a = b) := by
  by_cases h : a = b
  · rw [h]; simp
  · rw [decide_eq_false h, decide_eq_false fun z => h (V.str.inj z)]
/-- a list of truths made by a comprehension -/
theorem given_bl {α : Type} (xs : List α) (d : α) (p : α → Bool) : Evl.given xs.length (fun _ => true) (fun i => V.bl (p (xs.getD i d))) = (xs.map p).map V.bl := by
  rw [given_map xs d (fun x => V.bl (p x)), List.map_map]
  rfl
theorem given_int {α : Type} (xs : List α) (d : α) (p : α → Int) : Evl.given xs.length (fun _ => true) (fun i => V.int (p (xs.getD i d))) = (xs.map p).map V.int := by
  rw [given_map xs d (fun x => V.int (p x)), List.map_map]
  rfl
theorem all_id {α : Type} (xs : List α) (p : α → Bool) : (xs.map p).all id = xs.all p := by
  rw [List.all_map]
  rfl
def optV : Option Int → V
  | none => .non
  | some i => .int i
theorem strEq {a b : Str} (h : V.str a = V.str b) : a = b := V.str.inj h
theorem strNe {a b : Str} (h : ¬ V.str a = V.str b) : ¬ a = b := fun z => h (by rw [z])
theorem intEq {a b : Int} (h : V.int a = V.int b) : a = b := V.int.inj h
theorem intNe {a b : Int} (h : ¬ V.int a = V.int b) : ¬ a = b := fun z => h (by rw [z])
theorem r_iteS2 {a b : Str} {A B : Prop} (h1 : a = b → A) (h2 : ¬ a = b → B) : if decide (V.str a = V.str b) = true then A else B := r_ite2 (fun h => h1 (strEq h)) (fun h => h2 (strNe h))
theorem r_iteI2 {a b : Int} {A B : Prop} (h1 : a = b → A) (h2 : ¬ a = b → B) : if decide (V.int a = V.int b) = true then A else B := r_ite2 (fun h => h1 (intEq h)) (fun h => h2 (intNe h))
theorem r_iteB {b : Bool} {A B : Prop} (h1 : b = true → A) (h2 : b = false → B) : if b = true then A else B := by
  cases b
  · exact iteF (h2 rfl)
  · exact iteT (h1 rfl)
theorem r_iteBN {b : Bool} {A B : Prop} (h1 : b = false → A) (h2 : b = true → B) : if (!b) = true then A else B := by
  cases b
  · exact iteT (h1 rfl)
  · exact iteF (h2 rfl)
theorem val_to {Q : VK} {v v' : V} {H : Hp} (z : Q v H) (e : v = v') : Q v' H := e ▸ z
theorem r_isiO {K : PySem.W.Frag} {H : Hp} {Q : VK} {o : Option Int} (q : Q (.bl false) H) : rIsi K [optV o, .ty "bool"] H Q := by
  cases o with
  | none => exact ⟨_, _, .type "NoneType", _, _, rfl, .ty _, .base .non, kit_ty (by decide +kernel), q⟩
  | some i => exact ⟨_, _, .type "int", _, _, rfl, .ty _, .base (.int i), kit_ty (by decide +kernel), q⟩
theorem r_neO {H : Hp} {Q : VK} {o : Option Int} (q : Q (.bl false) H) : rNe (optV o) (optV o) H Q := by
  refine ⟨by cases o <;> rfl, ?_⟩
  rw [decide_eq_true rfl]
  exact q
theorem r_isNone {B : Prop} (q : B) : V.non = V.non ∧ B := ⟨rfl, q⟩
theorem r_neB {H : Hp} {Q : VK} {b : Bool} (q : Q (.bl false) H) : rNe (.bl b) (.bl b) H Q := by
  refine ⟨rfl, ?_⟩
  rw [decide_eq_true rfl]
  exact q
theorem putF_le (f : Str) (v : V) : ∀ fs : List (Str × V), (putF f v fs).length ≤ fs.length + 1
  | [] => Nat.le_refl _
  | (g, x) :: r => by
    unfold putF
    split
    · simp
    · have := putF_le f v r
      simp only [List.length_cons]
      omega
theorem putF_lt {f : Str} {v : V} {fs : List (Str × V)} {n m : Nat} (h : fs.length + (n + 1) < m) : (putF f v fs).length + n < m := by
  have := putF_le f v fs
  omega
theorem putF_lt0 {f : Str} {v : V} {fs : List (Str × V)} {m : Nat} (h : fs.length + 1 < m) : (putF f v fs).length < m := putF_lt (n := 0) h
theorem sz_lit {n : Nat} (h : n ≤ 1000) : n ≤ sizeLine := Nat.le_of_lt (small1000 h)
end KB

/-! KG: own layer: defs called while no repr is under way (A.guards = some []); repr of data. -/
namespace KG
open PySem PySem.Spec PyProof.Rows L2 KB
abbrev Free (A : Around) : Prop := A.guards = some []
theorem free_deeper {A : Around} (g : Free A) (env : Env) : Free (A.deeper env) := g
/-- as FnOk, asked only where no repr is under way -/
structure FnG (P : Program) (w : World) (K : PySem.W.Frag) (mg : Str → Option Value) (base : Heap) (CX : CXT) (k : Nat) (f : Addr) (fd : FuncData) (ps : List Str) (sp : Sp) : Prop where
  size : ∀ xs h Z W, sp xs h Z W → xs.length = ps.length
  go : ∀ (A : Around), Free A → ∀ (out : List Env) (st : Shared) (h : Hp) (ar : Args) (ws : List Value) (xs : List V) (Z : VK) (W : XK), Room k A → Env0 P w K mg base A out st h → BindsTo st fd ar (ps.zip ws) → Vals xs ws → sp xs h Z W →
    codeAny (model P w) A (.call (.ref f) ar) (CR CX out P w h st Z W) st
theorem FnG.of {P : Program} {w : World} {K : PySem.W.Frag} {mg : Str → Option Value} {base : Heap} {CX : CXT} {k : Nat} {f : Addr} {fd : FuncData} {ps : List Str} {sp : Sp} (F : FnOk P w K mg base CX k f fd ps sp) : FnG P w K mg base CX k f fd ps sp :=
  ⟨F.len, fun A _ => F.run A⟩
section
variable {P : Program} {w : World} {K : PySem.W.Frag} {mg : Str → Option Value} {base : Heap} {CX : CXT}
theorem fnG_body {k : Nat} {f : Addr} {nm ql : Str} {pr : Arguments} {bd : List Stmt} {sc : Scope} {v1 v2 v3 v4 cv v5 v6 : Value} {a1 a2 : Option Addr} {slots : Array (Option Value)} {N ps : List Str} {sp : Sp}
    (look : K.lookup f = some ⟨v6, a2, .func (PySem.W.fnOf nm ql pr bd sc v1 v2 v3 v4 a1 cv v5), slots⟩) (code : PySem.W.codeIn K cv ql = true) (S : FnScope N ps sc) (size : ∀ xs h Z W, sp xs h Z W → xs.length = ps.length)
    (body : ∀ (A : Around) (out : List Env) (st : Shared) (h : Hp) (xs : List V) (Z : VK) (W : XK), Room k (A.deeper (envOfC ql sc st.heap.objs.size f cv)) → Free A → sp xs h Z W →
      ∃ t, PSs (cxOf CX P w K mg base N ql sc f cv A out st h W) bd t ∧ t { nx := fun _ h' => Z .non h', rt := Z } (start N xs) h) :
    FnG P w K mg base CX (k + 1) f (PySem.W.fnOf nm ql pr bd sc v1 v2 v3 v4 a1 cv v5) ps sp := by
  refine ⟨size, fun A fr out st h ar ws xs Z W room env bind vals pre => ?_⟩
  have kin : K.In st.heap := env.mod.kin.keeps fun b o q => (env.bs b o q).1
  have nolim : st.heap.NoLimit := env.mod.nolimit.keeps fun b o q => (env.bs b o q).1
  have kinds : ∀ y ∈ ps.zip ws, sc.names.lookup y.1 = some .local ∨ (sc.names.lookup y.1 = some .cell ∧ ((cellsFrom (st.heap.objs.size + 1) sc.names []).lookup y.1).isSome = true) := by
    intro y hy
    obtain ⟨n, v⟩ := y
    cases S.par n (List.of_mem_zip hy).1 with
    | inl z => exact .inl z
    | inr z => exact .inr ⟨z, PySem.W.cellsFrom_some _ _ _ (.inl z)⟩
  refine codeAny_call_function room.depth (kin _ _ look) rfl S.co S.gen rfl (PySem.W.codeRec_of kin code) (bind _ _ _ _ ?_)
  refine wpAny_newFunctionEnv_cells S.kind kinds fun en he st1 inc => ?_
  subst he
  refine ⟨nolim.keeps inc.toInCall.keep, codeAny_func ?_⟩
  obtain ⟨t, drv, rdg⟩ := body A out st h xs Z W (room.deeper _) fr pre
  have inv : Inv (cxOf CX P w K mg base N ql sc f cv A out st h W) [] (start N xs) h st1 := inv_start S room.hd env (size _ _ _ _ pre) vals inc
  refine wpAny_mono (drv.run [] st1 (start N xs) h _ inv rdg) (fun flow st2 res => ?_) fun _ _ z => z
  cases flow with
  | ret u => exact let ⟨v, _, h2, J, rel, z⟩ := res; ⟨v, h2, J.os, J.bare, J.base, J.hok, rel, z⟩
  | next => exact let ⟨_, h2, J, z⟩ := res; ⟨.non, h2, J.os, J.bare, J.base, J.hok, rfl, z⟩
  | brk => exact (let ⟨_, _, _, z⟩ := res; z : False).elim
  | cont => exact (let ⟨_, _, _, z⟩ := res; z : False).elim
/-- the rule for a def of the text, nothing raised out of it -/
theorem fun_okG {x ql : Str} {stm : Stmt} {f : Addr} {fd : FuncData} {N ps : List Str} {k : Nat} {sp : Sp} (F : Fun K x ql stm f fd) (S : FnScope N ps (defScope stm)) (size : ∀ xs h Z W, sp xs h Z W → xs.length = ps.length)
    (body : ∀ (cv : Value) (A : Around) (out : List Env) (st : Shared) (h : Hp) (xs : List V) (Z : VK) (W : XK), Room k (A.deeper (envOfC ql (defScope stm) st.heap.objs.size f cv)) → Free A → sp xs h Z W →
      ∃ t, PSs (cxOf CX0 P w K mg base N ql (defScope stm) f cv A out st h W).nox (defBody stm) t ∧ t { nx := fun _ h' => Z .non h', rt := Z } (start N xs) h) : FnG P w K mg base CX0 (k + 1) f fd ps sp := by
  obtain ⟨c1, c2, c3, c4, c5, c6, cv, c8, c9, rfl, look, code⟩ := F.ex
  refine fnG_body look code S size fun A out st h xs Z W room fr pre => ?_
  obtain ⟨t, drv, rdg⟩ := body cv A out st h xs Z W room fr pre
  exact ⟨t, drv.nox, rdg⟩
end
/-! ### calls -/
section
variable {X : Cx} {CX : CXT}
theorem runG {k : Nat} {f : Addr} {fd : FuncData} {ps : List Str} {sp : Sp} {E : XK} {dv : List V} {dw : List Value} {pins : List (Addr × Obj)} {σ : L2.St} {h : Hp} {st : Shared} {Z : VK} {ws : List Value} {xs : List V} (F : FnG X.prog X.w X.K X.mg X.base CX k f fd ps sp) (fr : Free X.A) (room : Room k X.A)
    (bind : Binds X.K fd ps dw) (dr : Vals dv dw) (pass : Passes CX X E) (inv : Inv X pins σ h st) (rel : Vals xs ws) (pre : sp (xs ++ dv) h Z E) : wpAny (model X.prog X.w) X.A (call (.ref f) ws) (EP X pins σ Z) X.xe st := by
  have rel2 := rel.append dr
  have size : (ws ++ dw).length = ps.length := rel2.length.symm.trans (F.size _ _ _ _ pre)
  refine wpAny_call (codeAny_mono (F.go X.A fr X.stack st h ⟨ws, []⟩ _ _ Z E room inv.env0 (bind st ws inv.kIn size) rel2 pre) fun res st2 z => ?_)
  match res, z with
  | .error e, z => exact pass pins σ h st e st2 inv z
  | .ok (.ret u), z => exact inv.after z
  | .ok .next, z => exact z.elim
  | .ok .brk, z => exact z.elim
  | .ok .cont, z => exact z.elim
structure CalleeG (P : Program) (w : World) (K : PySem.W.Frag) (mg : Str → Option Value) (base : Heap) (CX : CXT) (k : Nat) (x : Str) (ps : List Str) (sp : Sp) : Prop where
  ex : ∃ (f : Addr) (fd : FuncData), FnG P w K mg base CX k f fd ps sp ∧ mg x = some (.ref f) ∧ PySem.W.keepIn K (.ref f) = true ∧ Binds K fd ps []
theorem pe_callG {k : Nat} {x : Str} {ps : List Str} {sp : Sp} {E : XK} {e : Expr} {es : List Expr} {p pos : Pos} {t : TA} (c : CalleeG X.prog X.w X.K X.mg X.base CX k x ps sp) (fr : Free X.A) (room : Room k X.A) (gl : Gl X x) (pass : Passes CX X E) (ha : PA X (e :: es) t)
    (d1 : (x == ("__debug__" : Str)) = false := by decide) (d2 : starEach (e :: es) X.env = (false, eval e X.env) :: starEach es X.env := by rfl) (d3 : (backTo pos (starEach es X.env)).any (·.1) = false := by rfl) :
    PE X (.Call (.Name x p) (e :: es) [] pos) (tCall sp [] E t) := by
  obtain ⟨f, fd, F, look, keep, bind⟩ := c.ex
  refine ⟨fun pins st σ h Z inv pre => wpAny_Call_Name_kw (ld_glob inv gl look ?_ d1)⟩
  refine PySem.W.callWith_K (h₀ := X.base) inv.ok.mod.kin keep (thn (ha.run pos pins st σ h _ inv pre) fun ws st1 res => ?_) d2 d3
  obtain ⟨xs, h1, inv1, rel, z⟩ := res
  exact ⟨inv1.kIn, runG F fr room bind .nil pass inv1 rel z⟩
end
/-! ### repr of data -/
section
variable {P : Program} {w : World} {A : Around} {E : Value → Shared → Prop} {s : Shared} {Z : Value → Shared → Prop}
theorem repr_slot {v : Value} {T id : String} (hu : A.units + 2 < cLine) (ty : s.TypeIs v T) (slot : SlotG T "__repr__" id)
    (h : wpAny (model P w) A.in1 (callSpecialIfBound? v (Str.ofString "__repr__")) (fun r st => ∃ (y : Str) (u : Tok), r = some (.str y u) ∧ Z (.str y u) st) E s) : wpAny (model P w) A (call (.builtin "repr") [v]) Z E s := by
  refine (Calls.call_function_entry F.kind_repr F.plain_repr F.entry_repr (F.args_repr1 _) ?_); unfold Builtin.«repr»
  refine (wpAny_bind (m := oneArg "repr" _) (wpAny_pure ?_))
  refine (wpAny_bind (wpAny_cRoomFor (show A.units + 1 < cLine by omega) ?_))
  refine (wpAny_bind (wpAny_specialOf (name := Str.ofString "__repr__") ty slot.lookup ?_))
  refine (wpAny_bind (m := callSpecialIfBound? v (Str.ofString "__repr__")) (wpAny_mono h (fun r st z => ?_) fun _ _ z => z))
  obtain ⟨y, u, rfl, z⟩ := z
  refine (wpAny_bind (wpAny_isInstance (T := "str") (b := true) rfl isSubtype_str_str ?_))
  exact (wpAny_pure ⟨.str y u, rfl, z⟩)
theorem repr_data {v : Value} {d : PyData} {as : List Addr} (r : Reads s.heap v d as) (ok : d.showable = true) (nod : d.hasDict = false) (sz : d.shown.length ≤ sizeLine) (fr : Free A) (hu : A.units + d.depth + 3 < cLine)
    (q : ∀ h' u tk, (∀ b o, s.heap.get? b = some o → h'.get? b = some o) → Z (.str d.shown u) { s with heap := h', toks := tk }) : wpAny (model P w) A (call (.builtin "repr") [v]) Z E s := by
  have nosys : d.hasDict = true → sysModules ∉ as := fun z => by rw [nod] at z; cases z
  cases r with
  | none =>
    simp only [PyData.shown] at q
    exact PySem.P.repr_of_none (q s.heap _ _ fun _ _ e => e)
  | bool b =>
    simp only [PyData.shown] at q
    exact PySem.P.repr_of_bool (q s.heap _ _ fun _ _ e => e)
  | int i t =>
    simp only [PyData.shown] at q
    exact PySem.P.repr_of_int (by simpa [PyData.showable] using ok) (q s.heap _ _ fun _ _ e => e)
  | str x t =>
    simp only [PyData.shown] at q sz
    exact PySem.P.repr_of_str (q s.heap _ _ fun _ _ e => e) sz
  | @list a o vs n xs as1 h1 h2 h3 h4 =>
    have sz' : (listText (PyData.shownAll xs)).length ≤ sizeLine := by simpa only [PyData.shown] using sz
    have ok' : PyData.showableAll xs = true := by simpa [PyData.showable] using ok
    have whole : Reads s.heap (.ref a) (.list xs) _ := .list h1 h2 h3 h4
    obtain ⟨bs, lim, kids⟩ := ReprAllK.of_readsAll (prog := P) (w := w) h4 ok' (fun z m => nosys (by simpa [PyData.hasDict] using z) (List.mem_cons_of_mem _ m)) (fun t ht => Nat.le_trans (listText_mem_le ht) sz')
    have off : a ∉ bs := not_mem_of_deeper whole (by simp only [PyData.depth]; omega) lim
    simp only [PyData.depth] at hu
    simp only [PyData.shown] at q
    have ty : s.TypeIs (.ref a) "list" := ⟨_, h1, h2⟩
    refine repr_slot (by omega) ty F.slot_list_repr.toG ?_
    obtain ⟨l⟩ := vs
    cases l with
    | nil =>
      have h4' : ReadsAll s.heap [] xs _ := h4
      cases h4'
      simp only [PyData.shownAll, listText_nil] at q
      refine (wpAny_callSpecialIfBound?_slot (name := Str.ofString "__repr__") ty F.slot_list_repr (call_list_repr_empty ty h1 h3 ?_))
      exact ⟨_, _, rfl, q s.heap _ _ fun _ _ e => e⟩
    | cons x l =>
      refine (wpAny_callSpecialIfBound?_slot (name := Str.ofString "__repr__") ty F.slot_list_repr (call_list_reprK h1 h2 h3 off (by simpa using kids.length_eq) (fun i y e => kids.item i y (by simpa using e)) fr (fun b _ => Clear.nil b) (show A.units + 1 + _ < cLine by omega) (fun _ _ e => e) (fun h' u tk kp => ?_) sz'))
      exact ⟨_, _, rfl, q h' u tk kp⟩
  | @tuple a o vs n xs as1 h1 h2 h3 h4 =>
    have sz' : (tupleText (PyData.shownAll xs)).length ≤ sizeLine := by simpa only [PyData.shown] using sz
    have ok' : PyData.showableAll xs = true := by simpa [PyData.showable] using ok
    have whole : Reads s.heap (.ref a) (.tuple xs) _ := .tuple h1 h2 h3 h4
    obtain ⟨bs, lim, kids⟩ := ReprAllK.of_readsAll (prog := P) (w := w) h4 ok' (fun z m => nosys (by simpa [PyData.hasDict] using z) m) (fun t ht => Nat.le_trans (tupleText_mem_le ht) sz')
    have off : a ∉ bs := not_mem_of_deeper whole (by simp only [PyData.depth]; omega) lim
    simp only [PyData.depth] at hu
    simp only [PyData.shown] at q
    have ty : s.TypeIs (.ref a) "tuple" := ⟨_, h1, h2⟩
    refine repr_slot (by omega) ty F.slot_tuple_repr ?_
    refine (wpAny_callSpecialIfBound?_slotG (name := Str.ofString "__repr__") ty F.slot_tuple_repr (call_tuple_reprK h1 h2 h3 off kids fr (fun b _ => Clear.nil b) (show A.units + 1 + _ < cLine by omega) (fun _ _ e => e) (fun h' u tk kp => ?_) sz'))
    exact ⟨_, _, rfl, q h' u tk kp⟩
  | dict => simp [PyData.hasDict] at nod
end
section
variable {X : Cx}
theorem vals_one {x : V} {us : List Value} (r : Vals [x] us) : ∃ u, us = [u] ∧ RelV x u := by
  cases r with
  | cons h t => cases t; exact ⟨_, rfl, h⟩
def rRepr (K : PySem.W.Frag) : List V → Hp → VK → Prop := fun xs H Q => ∃ (v : V) (d : PyData), xs = [v] ∧ Dp K H v d ∧ d.showable = true ∧ d.hasDict = false ∧ d.depth ≤ 60 ∧ d.shown.length ≤ sizeLine ∧ Q (.str d.shown) H
theorem call_reprD {k : Nat} (fr : Free X.A) (room : Room k X.A) : CallR X (.builtin "repr") (rRepr X.K) := by
  intro pins st σ h xs us Z inv rel pre
  obtain ⟨v, d, rfl, dp, ok, nod, deep, sz, z⟩ := pre
  obtain ⟨u, rfl, rv⟩ := vals_one rel
  obtain ⟨as, rd⟩ := Dp.reads inv d v u dp rv
  refine repr_data rd ok nod sz fr (by have := room.un; omega) fun h' t tk kp => ?_
  exact ⟨.str d.shown, h, inv.kept kp, ⟨t, rfl⟩, z⟩
end
/-! ### the law's end -/
theorem law_G {P : Program} {w : World} {K : PySem.W.Frag} {mg bm : Str → Option Value} {k : Nat} {fa a : Addr} {fd : FuncData} {x : Str} {sp : Sp} {st : Shared} {us : List Value} {ns : List Int}
    (kin : K.In st.heap) (gl : st.heap.Ns mainGlobals mg) (bl : st.heap.Ns builtinsNs bm) (bb : ∀ y : Str, y ≠ "__name__" → bm y = bootBuiltins y) (nolim : st.heap.NoLimit) (nogen : st.gens = #[])
    (at_ : st.heap.get? a = some { cls := .type "list", data := .seq us.toArray }) (allInt : IntsAre us ns) (few : ns.length ≤ sizeLine) (room : Room k callerA)
    (F : ∀ base : Heap, K.In base → base.Ns mainGlobals mg → FnG P w K mg base CX0 k fa fd [x] sp) (bind : ∀ (s : Shared) (u : Value), BindsTo s fd ⟨[u], []⟩ [(x, u)])
    (pre : ∀ H : Hp, SqL K H a (ns.map V.int) → sp [.ref a] H (fun v _ => v = .bl true) fun _ _ _ => False) :
    codeAny (model P w) callerA (.call (.ref fa) ⟨[.ref a], []⟩) (fun r s2 => r = .ok (.ret (.bool true)) ∧ OldK st.heap s2.heap ∧ s2.os = st.os ∧ AllBare s2.gens) st := by
  have main : ∀ H : Hp, (∀ b, H b = none ∨ ∃ o ys, H b = some (.frz o (.lst ys))) → SqL K H a (ns.map V.int) → HOk P w H st.heap → (∀ b, H b ≠ none → b = a) → (H a ≠ none → K.lookup a = none) →
      codeAny (model P w) callerA (.call (.ref fa) ⟨[.ref a], []⟩) (fun r s2 => r = .ok (.ret (.bool true)) ∧ OldK st.heap s2.heap ∧ s2.os = st.os ∧ AllBare s2.gens) st := by
    intro H only sq hok isA noK
    have free_of : ∀ {b : Addr} {o : Obj}, st.heap.get? b = some o → (∀ ys m, o.data ≠ .seq ys m) → H b = none := by
      intro b o e nd
      cases q : H b with
      | none => rfl
      | some z =>
        have eb := isA b (by rw [q]; simp)
        rw [eb, at_] at e
        exact absurd (congrArg Obj.data (Option.some.inj e)).symm (nd _ _)
    have kb : K.In (hidT st.heap H) := by
      intro b o e
      refine hidT_get (kin b o e) ?_
      cases q : H b with
      | none => rfl
      | some z =>
        have eb := isA b (by rw [q]; simp)
        rw [eb] at e q
        rw [noK (by rw [q]; simp)] at e
        cases e
    have ns_of : ∀ {b : Addr} {m : Str → Option Value}, st.heap.Ns b m → (hidT st.heap H).Ns b m := by
      intro b m h
      obtain ⟨o, es, ep, e, d, r⟩ := h
      exact ⟨o, es, ep, hidT_get e (free_of e (fun ys n z => by rw [d] at z; cases z)), d, r⟩
    have hm : Mod K mg (hidT st.heap H) := ⟨kb, ns_of gl, ⟨bm, ns_of bl, bb⟩, by obtain ⟨mc, z1, z2⟩ := nolim; exact ⟨mc, ns_of z1, z2⟩⟩
    have env : Env0 P w K mg (hidT st.heap H) callerA [] st H := ⟨rfl, hm, fun b o e => of_hidT e, Nat.le_of_eq (hidT_size _ _), trivial, fun b z => (List.not_mem_nil z).elim, hok, .of_eq nogen⟩
    refine codeAny_mono ((F _ kb (ns_of gl)).go callerA rfl [] st H ⟨[.ref a], []⟩ [.ref a] [.ref a] _ _ room env (bind st (.ref a)) (.cons rfl .nil) (pre H sq)) fun res s2 z => ?_
    match res, z with
    | .error e, z => exact z.elim
    | .ok .next, z => exact z.elim
    | .ok .brk, z => exact z.elim
    | .ok .cont, z => exact z.elim
    | .ok (.ret u), z =>
      obtain ⟨v, H2, z1, z2, un, hok2, rel, rfl⟩ := z
      obtain rfl : u = Value.bool true := rel
      refine ⟨rfl, OldK.of_keep fun b o e => ?_, z1, z2⟩
      cases q : H b with
      | none => exact un.keep b o e q (fun y => List.not_mem_nil y) (fun y => List.not_mem_nil y)
      | some y =>
        rcases only b with y1 | ⟨o1, ys, y1⟩
        · rw [q] at y1; cases y1
        · have y2 := (hok b _ y1).1
          have y3 := (hok2 b _ (un.frzs b o1 _ y1)).1
          rw [e] at y2
          rw [Option.some.inj y2]
          exact y3
  have vals := vals_ints allInt
  have lens := allInt.length
  cases look : K.lookup a with
  | some o =>
    have e := kin a o look
    rw [at_] at e
    obtain rfl := Option.some.inj e
    exact main (fun _ => none) (fun _ => .inl rfl) (.inr ⟨_, us.toArray, _, look, rfl, rfl, rfl, by rw [List.size_toArray, lens]; exact few, by simpa using vals⟩) (fun _ _ z => nomatch z) (fun _ z => (z rfl).elim) (fun z => (z rfl).elim)
  | none =>
    refine main (upd (fun _ => none) a (.frz { cls := .type "list", data := .seq us.toArray } (.lst (ns.map V.int)))) (fun b => ?_) (.inl (.inr ⟨_, upd_same⟩)) (fun b y z => ?_) (fun b z => ?_) fun _ => look
    · by_cases eb : b = a
      · rw [eb, upd_same]; exact .inr ⟨_, _, rfl⟩
      · rw [upd_ne eb]; exact .inl rfl
    · by_cases eb : b = a
      · subst eb
        rw [upd_same] at z
        obtain rfl := Option.some.inj z
        exact ⟨at_, by rw [List.length_map]; exact few, us, _, vals, at_⟩
      · rw [upd_ne eb] at z; cases z
    · by_cases eb : b = a
      · exact eb
      · exact absurd (upd_ne eb) z
/-- the goal that the head leaves, from the law's own promise -/
theorem walkG {l : PySem.W.OpenLaw} {n k : Nat} {q : Program} {loose : List Str} {XP : (Str → Option Value) → Heap → Prop} {YP : World → Heap → Prop} {d : DefRec} {K : Params → PySem.W.Frag} {sp : World → Sp} {x : Str}
    (hn : l.most = some n) (n2 : n ≤ sizeLine) (nodef : d.params.defaults = []) (room : Room k callerA) (hY : ∀ (w : World) (h : Heap), YP w h → (K w.params).In h)
    (F : ∀ (w : World) (mg : Str → Option Value) (fa : Addr) (h : Heap), (K w.params).In h → h.Ns mainGlobals mg → mg d.name = some (.ref fa) →
      ∃ fd : FuncData, (∀ (s : Shared) (u : Value), BindsTo s fd ⟨[u], []⟩ [(x, u)]) ∧ ∀ base : Heap, (K w.params).In base → base.Ns mainGlobals mg → FnG l.prog w (K w.params) mg base CX0 k fa fd [x] (sp w))
    (pre : ∀ (w : World) (H : Hp) (a : Addr) (ns : List Int), ns.length ≤ n → SqL (K w.params) H a (ns.map V.int) → sp w [.ref a] H (fun v _ => v = .bl true) fun _ _ _ => False) :
    PySem.W.WalkO q loose XP YP l.row.toRowW d [] (fun f vs => PySem.call f vs) := by
  refine Att.attach_call hn nodef fun w s0 st mg bm fa o pm cd doc a us ns G Y ho hd hcd hmg hobj allInt size nogen => ?_
  obtain ⟨fd, bind, hF⟩ := F w mg fa _ (hY w _ Y) G.T.g hmg
  exact law_G (hY w _ Y) G.T.g G.T.b G.T.builtins G.T.nolimit nogen hobj allInt (Nat.le_trans size n2) room hF bind fun H sq => pre w H a ns size sq
end KG

/-! KO: own objects: methods called by keywords, own ==, != by own ==, str by own __str__. -/
namespace KO
open PySem PySem.Spec PyProof.Rows L2 KB
section
variable {X : Cx}
/-- a def run in another Around, nothing raised out of it -/
theorem run0 {A' : Around} {k : Nat} {f : Addr} {fd : FuncData} {ps : List Str} {sp : Sp} {pins : List (Addr × Obj)} {σ : L2.St} {h : Hp} {st : Shared} {Z : VK} {ws : List Value} {xs : List V} {E' : Value → Shared → Prop} (F : FnOk X.prog X.w X.K X.mg X.base CX0 k f fd ps sp) (room : Room k A')
    (env : Env0 X.prog X.w X.K X.mg X.base A' X.stack st h) (bind : Binds X.K fd ps []) (inv : Inv X pins σ h st) (rel : Vals xs ws) (pre : sp xs h Z E0) : wpAny (model X.prog X.w) A' (call (.ref f) ws) (EP X pins σ Z) E' st := by
  have size : (ws ++ []).length = ps.length := by rw [List.append_nil, ← rel.length]; exact F.len _ _ _ _ pre
  have bd := bind st ws inv.kIn size
  rw [List.append_nil] at bd
  refine wpAny_call (codeAny_mono (F.run A' X.stack st h ⟨ws, []⟩ _ _ Z E0 room env bd rel pre) fun res st2 z => ?_)
  match res, z with
  | .error e, z => exact z.elim
  | .ok (.ret u), z => exact inv.after z
  | .ok .next, z => exact z.elim
  | .ok .brk, z => exact z.elim
  | .ok .cont, z => exact z.elim
theorem inst_of {pins : List (Addr × Obj)} {σ : L2.St} {h : Hp} {st : Shared} {a C dx : Addr} {fs : List (Str × V)} (inv : Inv X pins σ h st) (e : h a = some (.ins C dx fs)) : ∃ od, PySem.W.InstAt st.heap a (PySem.W.instObj C dx) C (some od) := by
  obtain ⟨mA, O, _⟩ := ins_get inv.hok e
  obtain ⟨od, J, _⟩ := O.look
  exact ⟨od, J⟩
/-! ### own == -/
def rEqOwn (K : PySem.W.Frag) (C : Addr) (sp : Sp) : R2 := fun x y H Q => ∃ a dx fs b C' dy gs, x = .ref a ∧ y = .ref b ∧ H a = some (.ins C dx fs) ∧ H b = some (.ins C' dy gs) ∧ PySem.W.notFirst K C (.ref C') = true ∧ sp [x, y] H Q E0
theorem op_eqOwn {C g : Addr} {fd : FuncData} {ps : List Str} {sp : Sp} {n : Nat} (hs : PySem.W.findIn X.K (.ref C) "__eq__" = some (some (.ref g))) (hf : PySem.W.isFn X.K (.ref g) = true) (F : FnOk X.prog X.w X.K X.mg X.base CX0 n g fd ps sp) (bind : Binds X.K fd ps [])
    (room : Room n X.A) : OpR X (compareOp .Eq) (rEqOwn X.K C sp) := by
  intro pins st σ h x y v u Z inv rx ry pre
  obtain ⟨a, dx, fs, b, C', dy, gs, rfl, rfl, ha, hb, nf, z⟩ := pre
  obtain rfl : v = Value.ref a := rx
  obtain rfl : u = Value.ref b := ry
  obtain ⟨od, J⟩ := inst_of inv ha
  obtain ⟨od', J'⟩ := inst_of inv hb
  obtain ⟨m, hF⟩ := inv.fr
  rw [show compareOp .Eq (.ref a) (.ref b) = richCompare .Eq (.ref a) (.ref b) from rfl]
  refine PySem.W.cmp_K (op := .Eq) (tb := .ref C') room.units0 hF inv.ok.mod.kin J J'.type nf hs hf ?_
  refine wpAny_mono (run0 (E' := X.xe) (xs := [.ref a, .ref b]) F room inv.env0 bind inv (.cons rfl (.cons rfl .nil)) z) (fun w s2 r => ?_) fun _ _ z => z
  obtain ⟨z', h2, inv2, rz, qz⟩ := r
  exact SlX.cmpback rz ⟨z', h2, inv2, rz, qz⟩
/-! ### != by own == -/
/-- what the text's class must be for it -/
structure NeCls (K : PySem.W.Frag) (C g : Addr) : Prop where
  ex : ∃ (nm q : Str) (N : Addr) (bs : List Value) (hd : Bool) (sn : List Str) (sub : List Value) (ab : Bool) (col : Option Bool) (dd : Option Addr) (k0 k1 k2 k3 k5 : Option Value) (nid : String),
    K.lookup C = some (excClassObj nm q C N bs [.type "object"] hd sn sub ab col dd k0 k1 k2 k3 k5 nid) ∧ PySem.W.nsOkIn K N = true ∧ PySem.W.nsIn K N "__eq__" = some (some (.ref g)) ∧ PySem.W.nsIn K N "__ne__" = some none
  fn : ∃ o : Obj, K.lookup g = some o ∧ o.cls = .type "function"
theorem ns_val {K : PySem.W.Frag} {h : Heap} {N : Addr} {m : Str → Option Value} {x : Str} {v : Value} (kin : K.In h) (G : h.Ns N m) (e : PySem.W.nsIn K N x = some (some v)) : m x = some v := by
  obtain ⟨o, es, ep, e1, e2, _, e3⟩ := G
  unfold PySem.W.nsIn at e
  split at e
  · rename_i q
    have z := kin _ _ q
    rw [e1] at z
    cases z
    cases e2
    split at e
    · rename_i w
      rw [← e3]
      unfold nsFind findBy
      rw [← Array.find?_toList, w]
      simpa using e
    · split at e <;> cases e
  · cases e
theorem NeCls.at {K : PySem.W.Frag} {C g a dx : Addr} {h : Heap} (c : NeCls K C g) (kin : K.In h) (ha : h.get? a = some (PySem.W.instObj C dx)) : h.OwnEqNoNe a C g "object" [.type "object"] := by
  obtain ⟨nm, q, N, bs, hd, sn, sub, ab, col, dd, k0, k1, k2, k3, k5, nid, e1, e2, e3, e4⟩ := c.ex
  obtain ⟨o, e5, e6⟩ := c.fn
  have hN : h.Ns N (h.nsMap N) := .of_isNs (PySem.W.isNs_of_in kin e2)
  exact ⟨_, o, nm, q, N, bs, hd, sn, sub, ab, col, dd, k0, k1, k2, k3, k5, nid, h.nsMap N, _, ha, rfl, kin _ _ e1, hN, ns_val kin hN e3, kin _ _ e5, e6, F.cmp_object.mro, F.cmp_object.eq.lookup, PySem.W.ns_none_of kin hN e4⟩
def rNeOwn (C : Addr) (sp : Sp) : R2 := fun x y H Q => ∃ a dx fs b dy gs, x = .ref a ∧ y = .ref b ∧ H a = some (.ins C dx fs) ∧ H b = some (.ins C dy gs) ∧ sp [x, y] H (fun v H' => ∃ c, v = .bl c ∧ Q (.bl (!c)) H') E0
theorem op_neOwn {C g : Addr} {fd : FuncData} {ps : List Str} {sp : Sp} {n : Nat} (c : NeCls X.K C g) (F : FnOk X.prog X.w X.K X.mg X.base CX0 n g fd ps sp) (bind : Binds X.K fd ps []) (room : Room (n + 1) X.A) : OpR X (compareOp .NotEq) (rNeOwn C sp) := by
  intro pins st σ h x y v u Z inv rx ry pre
  obtain ⟨a, dx, fs, b, dy, gs, rfl, rfl, ha, hb, z⟩ := pre
  obtain rfl : v = Value.ref a := rx
  obtain rfl : u = Value.ref b := ry
  obtain ⟨_, _, _, ga, _⟩ := inv.hok a _ ha
  obtain ⟨_, _, _, gb, _⟩ := inv.hok b _ hb
  have un := room.un
  refine compareOp_ne_ownEq (h := st.heap) (g := st.gens) (d := st.drawn) (t := st.toks) (os := st.os) PySem.F.cmp_object (c.at inv.kIn ga) gb rfl (by omega) ?_
  refine wpAny_mono (run0 (E' := X.xe) (xs := [.ref a, .ref b]) F room.in1 inv.env0.in1 bind inv (.cons rfl (.cons rfl .nil)) z) (fun w s2 r => ?_) fun _ _ z => z
  obtain ⟨v', h2, inv2, rz, cc, rfl, q2⟩ := r
  obtain rfl : w = Value.bool cc := rz
  exact ⟨cc, rfl, ⟨.bl (!cc), h2, inv2, rfl, q2⟩⟩
/-! ### str(o) by own __str__ -/
def rStrOwn (C : Addr) (sp : Sp) : List V → Hp → VK → Prop := fun xs H Q => ∃ a dx fs, xs = [.ref a] ∧ H a = some (.ins C dx fs) ∧ sp [.ref a] H (fun v H' => ∃ t, v = .str t ∧ Q (.str t) H') E0
theorem call_strOwn {C g : Addr} {fd : FuncData} {ps : List Str} {sp : Sp} {n : Nat} (hs : PySem.W.findIn X.K (.ref C) "__str__" = some (some (.ref g))) (hf : PySem.W.isFn X.K (.ref g) = true) (F : FnOk X.prog X.w X.K X.mg X.base CX0 n g fd ps sp) (bind : Binds X.K fd ps [])
    (room : Room (n + 2) X.A) : CallR X (.type "str") (rStrOwn C sp) := by
  intro pins st σ h xs us Z inv rel pre
  obtain ⟨a, dx, fs, rfl, ha, z⟩ := pre
  obtain ⟨u, rfl, ru⟩ : ∃ u, us = [u] ∧ RelV (.ref a) u := by
    cases rel with
    | cons e t => cases t; exact ⟨_, rfl, e⟩
  obtain rfl : u = Value.ref a := ru
  obtain ⟨od, J⟩ := inst_of inv ha
  have un := room.un
  refine PySem.W.kso_call (show X.A.units + 1 + 1 < cLine by omega) inv.kIn J hs hf ?_
  refine wpAny_mono (run0 (E' := X.xe) (xs := [.ref a]) F room.in1.in1 inv.env0.in1.in1 bind inv (.cons rfl .nil) z) (fun w s2 r => ?_) fun _ _ z => z
  obtain ⟨v', h2, inv2, rz, t, rfl, q2⟩ := r
  obtain ⟨tk, rfl⟩ : ∃ tk, w = Value.str t tk := rz
  exact ⟨.str t, h2, inv2, ⟨tk, rfl⟩, q2⟩
/-! ### o.m(.., k = v, ..) -/
structure CalleeMK (P : Program) (w : World) (K : PySem.W.Frag) (mg : Str → Option Value) (base : Heap) (k : Nat) (C : Addr) (m : Str) (ps : List Str) (sp : Sp) (n : Nat) (ks : List Str) (gV : List V → List V → List V) : Prop where
  ex : ∃ (f : Addr) (fd : FuncData) (g : List Value → List Value → List Value), FnOk P w K mg base CX0 k f fd ps sp ∧ Meth K C m f ∧ KBn K fd ps (n + 1) ks g gV
  cl : Cls K C
def tMethK0 (C : Addr) (m : Str) (n : Nat) (sp : Sp) (gV : List V → List V → List V) (ta : TE) (tk : TA) : TE := fun σ H Q => ta σ H fun x H1 => ∃ a dx fs, x = .ref a ∧ H1 a = some (.ins C dx fs) ∧ fs.lookup m = none ∧ tk σ H1 fun zs H2 => zs.length = n ∧ sp (gV [.ref a] zs) H2 Q E0
theorem pe_methK0 {pl : Sem Bool} {k : Nat} {C : Addr} {m : Str} {ps ks : List Str} {sp : Sp} {gV : List V → List V → List V} {o : Expr} {kws : List Keyword} {apos pos : Pos} {ta : TE} {tk : TA} (c : CalleeMK X.prog X.w X.K X.mg X.base k C m ps sp 0 ks gV) (ho : PE X o ta) (room : Room k X.A) (hkw : PK X kws tk)
    (d1 : (backToKw pos (keywordEach kws X.env)).all (·.1.isSome) = true := by rfl) (d2 : (backToKw pos (keywordEach kws X.env)).filterMap (·.1) = ks := by rfl) (d3 : ((backTo pos (starEach [] X.env)).any (·.1) || (backToKw pos (keywordEach kws X.env)).any (·.1.isNone)) = false := by rfl)
    (d4 : eval (.Call (.Attribute o m apos) [] kws pos) X.env = (do
      let ov ← eval o X.env
      standAt apos.atName
      let (f, first) ← holding [ov] (getMethod ov m pl)
      callWith pos f first (backTo pos (starEach [] X.env)) (backToKw pos (keywordEach kws X.env))) := by rfl) :
    PE X (.Call (.Attribute o m apos) [] kws pos) (tMethK0 C m ks.length sp gV ta tk) := by
  obtain ⟨f, fd, g, F, hm, hb⟩ := c.ex
  refine ⟨fun pins st σ h Z inv pre => PySem.W.methodCall_KW (pl := pl) (thn (ho.run pins st σ h _ inv pre) fun u s1 r => ?_) d4⟩
  obtain ⟨x, h1, inv1, rx, a, dx, fs, rfl, ea, no, z⟩ := r
  obtain rfl : u = Value.ref a := rx
  refine getmeth_ok inv1 ea c.cl hm no (PySem.W.callWith_KW0 (first := [.ref a]) (h₀ := X.base) inv.ok.mod.kin hm.kp d1 (thn (hkw.run pos pins s1 σ h1 _ inv1 z) fun ws s2 r => ?_) d3)
  obtain ⟨zs, h2, inv2, rel, l2, z2⟩ := r
  refine ⟨inv2.kIn, ?_⟩
  rw [d2]
  exact run_fnN (us := [.ref a]) (vs := [.ref a]) F room hb pass0 inv2 (.cons rfl .nil) rel rfl l2 z2
theorem r_methK0 {σ : L2.St} {H : Hp} {Q : VK} {C : Addr} {m : Str} {n : Nat} {sp : Sp} {gV : List V → List V → List V} {ta : TE} {tk : TA}
    (q : ta σ H fun x H1 => ∃ a dx fs, x = .ref a ∧ H1 a = some (.ins C dx fs) ∧ fs.lookup m = none ∧ tk σ H1 fun zs H2 => zs.length = n ∧ sp (gV [.ref a] zs) H2 Q E0) : tMethK0 C m n sp gV ta tk σ H Q := q
/-! ### an item of a dict of the text -/
theorem ix_kd {d : Addr} {es : Array DictEntry} {n : Nat} (D : KDict X.K X.w d es n) : IxR X (fun x y H Q => ∃ (z : Str) (u0 : Value) (v0 : V), x = .ref d ∧ y = .str z ∧ PySem.W.nsIn X.K d z = some (some u0) ∧ RelV v0 u0 ∧ Q v0 H) := by
  intro value slice pins st σ h x y v u Z inv rx ry pre hs
  have pre' := pre
  obtain ⟨z, u0, v0, rfl, rfl, e, r, q⟩ := pre'
  obtain rfl : v = Value.ref d := rx
  have ty : st.TypeIs (.ref d) "dict" := ⟨_, inv.kIn _ _ D.at_, rfl⟩
  exact tail_any ty PySem.F.slot_dict_getitem.lookup (op_item_kd D pins st σ h (.ref d) (.str z) _ u Z inv rfl ry pre) hs
theorem r_joined {σ : L2.St} {H : Hp} {te : TE} {ts : List TE} {acc : Str} {QJ : Str → Hp → Prop} (q : te σ H fun x H1 => ∃ y : Str, x = .str y ∧ (acc ++ y).length ≤ sizeLine ∧ tJs ts (acc ++ y) σ H1 QJ) : tJs (te :: ts) acc σ H QJ := q
theorem r_joined0 {σ : L2.St} {H : Hp} {acc : Str} {QJ : Str → Hp → Prop} (q : QJ acc H) : tJs [] acc σ H QJ := q
theorem r_fmt {σ : L2.St} {H : Hp} {te : TE} {Q : VK} (q : te σ H fun x H1 => (∃ y : Str, x = .str y ∧ y.length ≤ sizeLine ∧ Q (.str y) H1) ∨ ∃ i : Int, x = .int i ∧ i.natAbs.log2 < 1920 ∧ Q (.str (toString i)) H1) : tFmt te σ H Q := q
theorem r_fmtS {H : Hp} {Q : VK} {z : Str} {B : Prop} (h : z.length ≤ sizeLine) (q : Q (.str z) H) : (∃ y : Str, V.str z = .str y ∧ y.length ≤ sizeLine ∧ Q (.str y) H) ∨ B := .inl ⟨z, rfl, h, q⟩
/-- C(k = v, ..) -/
structure CalleeIK (P : Program) (w : World) (K : PySem.W.Frag) (mg : Str → Option Value) (base : Heap) (CX : CXT) (k : Nat) (C : Addr) (x : Str) (ps : List Str) (sp : Sp) (ks : List Str) (gV : List V → List V → List V) : Prop where
  ex : ∃ (f : Addr) (fd : FuncData) (g : List Value → List Value → List Value), FnOk P w K mg base CX k f fd ps sp ∧ Mk K C f ∧ mg x = some (.ref C) ∧ KBn K fd ps 1 ks g gV
theorem pe_makeKC {CX : CXT} {k : Nat} {C : Addr} {x : Str} {ps ks : List Str} {sp : Sp} {gV : List V → List V → List V} {E : XK} {kws : List Keyword} {p pos : Pos} {tk : TA} (c : CalleeIK X.prog X.w X.K X.mg X.base CX k C x ps sp ks gV) (room : Room (k + 1) X.A) (gl : Gl X x) (pass : Passes CX X E) (hkw : PK X kws tk)
    (d1 : (backToKw pos (keywordEach kws X.env)).all (·.1.isSome) = true := by rfl) (d2 : (backToKw pos (keywordEach kws X.env)).filterMap (·.1) = ks := by rfl) (d3 : (x == ("__debug__" : Str)) = false := by decide)
    (d4 : ((backTo pos (starEach [] X.env)).any (·.1) || (backToKw pos (keywordEach kws X.env)).any (·.1.isNone)) = false := by rfl) :
    PE X (.Call (.Name x p) [] kws pos) (tMakeK C 0 ks.length sp gV E tNil tk) := by
  obtain ⟨f, fd, g, F, M, hm, hb⟩ := c.ex
  exact pe_makeK0 M F room gl hm hb pass hkw d1 d2 d3 d4
theorem r_makeK {σ : L2.St} {H : Hp} {Q : VK} {C : Addr} {n m : Nat} {sp : Sp} {gV : List V → List V → List V} {E : XK} {t tk : TA} (q : t σ H fun vs H1 => tk σ H1 fun zs H2 => vs.length = n ∧ zs.length = m ∧ ∀ x dx, H2 x = none → H2 dx = none → dx ≠ x →
    sp (gV (.ref x :: vs) zs) (upd (upd H2 dx (.own x)) x (.ins C dx [])) (fun v H3 => v = .non ∧ Q (.ref x) H3) E) : tMakeK C n m sp gV E t tk σ H Q := q
/-- a special method of the text's class; the class for != -/
structure OwnM (P : Program) (w : World) (K : PySem.W.Frag) (mg : Str → Option Value) (base : Heap) (k : Nat) (C : Addr) (m : Str) (ps : List Str) (sp : Sp) : Prop where
  ex : ∃ (g : Addr) (fd : FuncData), PySem.W.findIn K (.ref C) m = some (some (.ref g)) ∧ PySem.W.isFn K (.ref g) = true ∧ FnOk P w K mg base CX0 k g fd ps sp ∧ Binds K fd ps []
structure OwnNe (P : Program) (w : World) (K : PySem.W.Frag) (mg : Str → Option Value) (base : Heap) (k : Nat) (C : Addr) (ps : List Str) (sp : Sp) : Prop where
  ex : ∃ (g : Addr) (fd : FuncData), NeCls K C g ∧ FnOk P w K mg base CX0 k g fd ps sp ∧ Binds K fd ps []
theorem call_strO {C : Addr} {ps : List Str} {sp : Sp} {n : Nat} (c : OwnM X.prog X.w X.K X.mg X.base n C "__str__" ps sp) (room : Room (n + 2) X.A) : CallR X (.type "str") (rStrOwn C sp) := by
  obtain ⟨g, fd, h1, h2, F, b⟩ := c.ex
  exact call_strOwn h1 h2 F b room
theorem op_eqO {C : Addr} {ps : List Str} {sp : Sp} {n : Nat} (c : OwnM X.prog X.w X.K X.mg X.base n C "__eq__" ps sp) (room : Room n X.A) : OpR X (compareOp .Eq) (rEqOwn X.K C sp) := by
  obtain ⟨g, fd, h1, h2, F, b⟩ := c.ex
  exact op_eqOwn h1 h2 F b room
theorem op_neO {C : Addr} {ps : List Str} {sp : Sp} {n : Nat} (c : OwnNe X.prog X.w X.K X.mg X.base n C ps sp) (room : Room (n + 1) X.A) : OpR X (compareOp .NotEq) (rNeOwn C sp) := by
  obtain ⟨g, fd, h1, F, b⟩ := c.ex
  exact op_neOwn h1 F b room
end
end KO

/-! KX: own error classes over ValueError whose __init__ says super().__init__(text) and sets one field. -/
namespace KX
open PySem PySem.Spec PyProof.Rows L2 KB
/-- the frame of such an __init__ -/
def supCx (CXx : CXT) (P : Program) (w : World) (K : PySem.W.Frag) (mg : Str → Option Value) (base : Heap) (N : List Str) (ql : Str) (sc : Scope) (f cda cc : Addr) (A : Around) (out : List Env) (st : Shared) (h : Hp) (W : XK) : Cx where
  prog := P
  w := w
  K := K
  mg := mg
  base := base
  A := A.deeper (PySem.W.ksEnv ql sc st.heap.objs.size f (.ref cda) cc)
  N := N
  s_0 := st
  H_0 := h
  env := PySem.W.ksEnv ql sc st.heap.objs.size f (.ref cda) cc
  outer := out
  stack := PySem.W.ksEnv ql sc st.heap.objs.size f (.ref cda) cc :: out
  ex := []
  fn := fun _ => false
  calm := true
  pn := []
  xe := fun e s' => wpAny (model P w) (A.deeper (PySem.W.ksEnv ql sc st.heap.objs.size f (.ref cda) cc)) (leaving (PySem.W.ksEnv ql sc st.heap.objs.size f (.ref cda) cc) e) (fun _ s'' => CXx out h st W e s'') (fun e' s'' => CXx out h st W e' s'') s'
theorem cls_only {y : Str} {cc c : Addr} (e : ([(("__class__" : Str), cc)] : List (Str × Addr)).lookup y = some c) : y = "__class__" ∧ c = cc := by
  simp only [List.lookup] at e
  split at e
  · rename_i z
    exact ⟨by simpa using z, (Option.some.inj e).symm⟩
  · cases e
theorem inv_sup {CXx : CXT} {P : Program} {w : World} {K : PySem.W.Frag} {mg : Str → Option Value} {base : Heap} {vn ql : Str} {sc : Scope} {f cda cc : Addr} {A : Around} {out : List Env} {st : Shared} {h : Hp} {W : XK} {u1 u2 : Value} {v1 v2 : V} {h1 : Heap} {tk : Nat} {cl : Value} {cld : Option Addr} {csl : Array (Option Value)} {cv : Option Value}
    (e0 : Env0 P w K mg base A out st h) (hd : A.handled = none) (kind : sc.kind = .function) (nocell : ∀ y ∈ sc.names, y.2 ≠ .cell) (nofree : ∀ y, sc.names.lookup y = some .free → y = "__class__") (l1 : sc.names.lookup ("self" : Str) = some .local) (l2 : sc.names.lookup vn = some .local) (nv : vn ≠ "self")
    (hc : K.lookup cc = some ⟨cl, cld, .cell cv, csl⟩) (hns : h1.Ns st.heap.objs.size (fun y => ([(("self" : Str), u1), (vn, u2)] : List (Str × Value)).reverse.lookup y)) (kp : ∀ b o, st.heap.get? b = some o → h1.get? b = some o) (r1 : RelV v1 u1) (r2 : RelV v2 u2) :
    Inv (supCx CXx P w K mg base ["self", vn] ql sc f cda cc A out st h W) [] [some v1, some v2] h { st with heap := h1, toks := tk } := by
  have noA : ∀ b : Addr, b ∉ (supCx CXx P w K mg base ["self", vn] ql sc f cda cc A out st h W).ex := fun b z => absurd (show b ∈ ([] : List Addr) from z) (by simp)
  have ccb := e0.bs _ _ (e0.mod.kin _ _ hc)
  refine ⟨⟨e0.mod, kind, rfl, rfl, Nat.le_refl _, fun y z c a b => (cls_only a).1.trans (cls_only b).1.symm, fun y hy => ?_, fun y c z _ => ?_, fun _ => hd, Around.frames_deeper e0.frames, .inr ⟨rfl, rfl⟩, fun b z => absurd z (noA b), e0.bs, e0.bsz, fun b _ _ => noA b, fun b z => absurd z (noA b), e0.funs, e0.frf⟩,
    rfl, e0.bare, Un.kept kp, ⟨_, hns, fun i y v a b c => ?_⟩, fun y c e => ?_, e0.hok.fresh (Nat.le_refl _), fun y c e => ?_, fun p hp => absurd (show p ∈ ([] : List (Addr × Obj)) from hp) (by simp), e0.hok.kept kp, rfl⟩
  · have hy : sc.names.lookup y = some .cell ∨ sc.names.lookup y = some .free := hy
    rcases hy with hy | hy
    · exact absurd rfl (nocell _ (PySem.mem_of_lookup hy))
    · rw [nofree y hy]
      exact ⟨cc, rfl⟩
  · have z : false = true := z
    cases z
  · match i, a, b with
    | 0, a, b =>
      obtain rfl : ("self" : Str) = y := Option.some.inj a
      obtain rfl : v1 = v := Option.some.inj (Option.some.inj b)
      refine ⟨u1, r1, .inl ⟨l1, ?_⟩⟩
      have nv' : ¬ (("self" : Str) == vn) = true := by simpa using fun z : ("self" : Str) = vn => nv z.symm
      simp [List.lookup, nv']
    | 1, a, b =>
      obtain rfl : vn = y := Option.some.inj a
      obtain rfl : v2 = v := Option.some.inj (Option.some.inj b)
      exact ⟨u2, r2, .inl ⟨l2, by simp [List.lookup]⟩⟩
    | i + 2, a, b => cases a
  · obtain ⟨rfl, rfl⟩ := cls_only e
    exact ⟨cv, _, kp _ _ ccb.1, rfl⟩
  · obtain ⟨rfl, rfl⟩ := cls_only e
    exact ccb.2
section
variable {prog : Program} {w : World} {A : Around} {E : Value → Shared → Prop} {h : Heap} {g : Array GenState} {d : Drawn} {t : Nat} {os : OsState}
variable {nm q : Str} {C N : Addr} {bs bm : List Value} {hdct : Bool} {sn : List Str} {sub : List Value} {ab : Bool} {col : Option Bool} {dd : Option Addr} {k0 k1 k2 k3 k5 : Option Value}
theorem call_mw {u e t0 : Addr} {rest : List Value} {Q : Value → Shared → Prop}
    (hC : h.get? C = some (excClassObj nm q C N bs bm hdct sn sub ab col dd k0 k1 k2 k3 k5 "ValueError.__new__")) (he : h.get? e = some (HandSPX.excO C t0)) (hu : h.get? u = some (PySem.W.kxs_mw "ValueError.__init__" e)) (hrest : rest.length ≤ sizeLine)
    (hq : ∀ h' t1, (∀ b o, b ≠ e → h.get? b = some o → h'.get? b = some o) → h'.get? e = some (HandSPX.excO C t1) → Q .none ⟨h', g, d, t, os⟩) :
    wpAny (model prog w) A (call (.ref u) rest) Q E ⟨h, g, d, t, os⟩ := by
  refine (wpAny_call (codeAny_of_tree ?_)); show wpAny _ A.in1 (callAny (.ref u) ⟨rest, []⟩) _ _ _; simp only [callAny]
  refine (wpAny_bind (wpAny_load hu ?_))
  simp only [PySem.W.kxs_mw, show (Value.type "method-wrapper" == Value.type "method" || Value.type "method-wrapper" == Value.type "builtin_function_or_method" || Value.type "method-wrapper" == Value.type "method-wrapper") = true by decide, if_true]
  refine (W.KFB.if_so (by decide) ?_)
  refine (wpAny_bind (ESX.check_bound F.excBase_ValueError hC he rfl ?_))
  refine (wpAny_bind (wpAny_pure (wpAny_pure ?_)))
  refine (⟨Code.quiet_builtin _ (by decide +kernel), codeAny_builtin F.excBase_ValueError.initEntry ?_⟩)
  rw [Around.under_plainId F.excBase_ValueError.init.plain _]; wp_walk
  refine hq _ h.objs.size (fun b o n e1 => ?_) ?_
  · exact (Heap.get?_update_other _ _ (Ne.symm n)).trans (Heap.get?_push_of_some _ e1)
  · exact Heap.get?_update_self _ (Heap.get?_push_of_some _ he) rfl
end
/-- what the text says of such an __init__ of the class at C -/
structure SupFn (K : PySem.W.Frag) (P : Program) (f : Addr) (fd : FuncData) (C : Addr) (vn fld : Str) : Prop where
  ex : ∃ (ql : Str) (pr : Arguments) (sc : Scope) (dV kV doc pm ct oc ccl cl : Value) (an od cdd cld : Option Addr) (osl ccs csl : Array (Option Value)) (cda cc : Addr) (vs : Array Value) (file : Str) (tf : Tok) (p0 p1 p2 p3 p4 p5 q1 q2 q3 q4 : Pos) (msg : Str) (j : Nat) (ar : Arg) (pl : Sem Bool),
    fd = PySem.W.ksFn "__init__" ql pr [.Expr (.Call (.Attribute (.Call (.Name "super" p0) [] [] p1) "__init__" p2) [.Constant (.str msg) j p3] [] p4) p5, .Assign [.Attribute (.Name "self" q1) fld q2] (.Name vn q3) q4] sc dV kV doc pm an (.ref cda) ct cc ∧
    K.lookup f = some ⟨oc, od, .func fd, osl⟩ ∧ PySem.W.codeIn K (.ref cda) ql = true ∧ K.lookup cda = some ⟨ccl, cdd, .fields vs, ccs⟩ ∧ vs[2]? = some (.str file tf) ∧ ((P.main.file : Str) == file) = true ∧
    K.lookup cc = some ⟨cl, cld, .cell (some (.ref C)), csl⟩ ∧ (pr.posonlyargs ++ pr.args).head? = some ar ∧ ar.arg = "self" ∧
    sc.kind = .function ∧ sc.isCoroutine = false ∧ sc.isGenerator = false ∧ (∀ y ∈ sc.names, y.2 ≠ .cell) ∧ (∀ y, sc.names.lookup y = some .free → y = "__class__") ∧ sc.names.lookup ("super" : Str) = some .globalImplicit ∧ sc.names.lookup ("__class__" : Str) = some .free ∧
    sc.names.lookup ("self" : Str) = some .local ∧ sc.names.lookup vn = some .local ∧
    (∀ en : Env, eval (.Call (.Attribute (.Call (.Name "super" p0) [] [] p1) "__init__" p2) [.Constant (.str msg) j p3] [] p4) en = (do
      let ov ← attributeBase (.Call (.Name "super" p0) [] [] p1) "__init__" en (eval (.Call (.Name "super" p0) [] [] p1) en)
      standAt p2.atName
      let (g, first) ← holding [ov] (getMethod ov "__init__" pl)
      callWith p4 g first (backTo p4 (starEach [.Constant (.str msg) j p3] en)) []))
  top : (P.main.scope.names.lookup ("super" : Str)).isSome = false
  nv : vn ≠ "self" ∧ (vn == ("__debug__" : Str)) = false ∧ (vn == ("__classdict__" : Str)) = false
  opq : PySem.W.nsIn K cStatics "thirdparty.any" = some none
  sub : PySem.W.mroIn K C (.ref C) = some true
  ve : PySem.W.mroIn K C (.type "ValueError") = some true
  sup : PySem.W.ks_superIn K C C "__init__" = some (some (.builtin "ValueError.__init__"))
  nof : PySem.W.findIn K (.ref C) fld = some none
def spXI (C : Addr) (fld : Str) : Sp := fun vs H Q _ => ∃ (a : Addr) (v : V), vs = [.ref a, v] ∧ H a = some (exo a C none) ∧ ∀ dx, H dx = none → dx ≠ a → Q .non (upd (upd H dx (exd dx [(fld, v)])) a (exo a C (some dx)))
theorem sup_ok {P : Program} {w : World} {K : PySem.W.Frag} {mg : Str → Option Value} {base : Heap} {k : Nat} {f C : Addr} {fd : FuncData} {vn fld : Str} (S : SupFn K P f fd C vn fld) (T : OexC K C) (hm : mg "super" = none) (hboot : bootBuiltins "super" = some (.type "super")) : FnOk P w K mg base CX0 (k + 1) f fd ["self", vn] (spXI C fld) := by
  refine ⟨fun xs h Z W z => ?_, fun A out st h ar0 ws xs Z W room env bind vals pre => ?_⟩
  · obtain ⟨a, v, rfl, _⟩ := z
    rfl
  obtain ⟨a, v, rfl, ha, q⟩ := pre
  obtain ⟨u1, u2, rfl, r1, r2⟩ := vals2 vals
  obtain ⟨ql, pr, sc, dV, kV, doc, pm, ct, oc, ccl, cl, an, od, cdd, cld, osl, ccs, csl, cda, cc, vs, file, tf, p0, p1, p2, p3, p4, p5, q1, q2, q3, q4, msg, j, ar, pl, rfl, lf, cdf, lcd, hvs, hfile, lcc, hp, har, kind, nco, ngen, nocell, nofree, ks, kc, kself, kvn, hev⟩ := S.ex
  have kin : K.In st.heap := env.mod.kin.keeps fun b o e => (env.bs b o e).1
  have nolim : st.heap.NoLimit := env.mod.nolimit.keeps fun b o e => (env.bs b o e).1
  refine ks_codeAny_call_defAt (binds := [("self", u1), (vn, u2)]) room.depth (kin _ _ lf) rfl nolim (PySem.W.codeRec_of kin cdf) rfl bind nocell (fun y hy => ?_) (fun h1 hns kp => ?_) nco ngen kind
  · simp only [List.mem_cons, List.not_mem_nil, or_false] at hy
    rcases hy with rfl | rfl
    · exact kself
    · exact kvn
  obtain rfl : u1 = Value.ref a := r1
  have I : Inv (supCx CX0 P w K mg base ["self", vn] ql sc f cda cc A out st h W) [] [some (.ref a), some v] h { st with heap := h1, toks := st.toks + 2 } := inv_sup env room.hd kind nocell nofree kself kvn S.nv.1 lcc hns kp rfl r2
  have hi : interactive (PySem.W.ksEnv ql sc st.heap.objs.size f (.ref cda) cc) = false := by
    unfold interactive
    simp [kind]
  refine ks_wpAt_execs_cons (ks_wpAt_Expr_any (env := PySem.W.ksEnv ql sc st.heap.objs.size f (.ref cda) cc) ?_ hi)
  refine ks_wpAt_MethodCall (pl := pl) (env := PySem.W.ksEnv ql sc st.heap.objs.size f (.ref cda) cc) ?_ (hev _)
  have bk := I.bk
  have kin1 : K.In h1 := I.kIn
  obtain ⟨t1, ga⟩ := exo_at I.hok ha
  obtain ⟨nm, qn, N, bs, bm, sn, sub, ab, col, dd, k0, k1, k2, k3, k5, hC, hbm⟩ := T.cls
  have hcl : PySem.W.clsIn K C = some { name := nm, bases := bs, mro := .ref C :: bm, ns := N, qualname := qn, hasDict := true, slotNames := sn, subclasses := sub, abstract := ab, collection := col, hasDel := false } := by unfold PySem.W.clsIn; rw [hC] <;> rfl
  obtain ⟨mb, b1, b2⟩ := env.mod.blt
  have kb : ∀ b o, base.get? b = some o → h1.get? b = some o := fun b o e => kp b o (env.bs b o e).1
  refine ks_wpAt_super_base (env := PySem.W.ksEnv ql sc st.heap.objs.size f (.ref cda) cc) ks kc (by decide) rfl (kin1 _ _ lf) rfl hp rfl (kin1 _ _ lcd) rfl hvs hfile S.top ?_
  refine PySem.W.ks_loadName_global kind ks (Calls.loadGlobal_builtin (env := PySem.W.ksEnv ql sc st.heap.objs.size f (.ref cda) cc) (env.mod.glob.keeps kb) hm (b1.keeps kb) ((b2 "super" (by decide)).trans hboot) ⟨rfl, ?_⟩)
  refine wpAny_loadName_free kind kc rfl ⟨_, kin1 _ _ lcc, rfl⟩ ?_
  rw [har]
  refine wpAny_loadName_local kind kself hns (v := .ref a) ?_ ?_
  · have nv' : ¬ (("self" : Str) == vn) = true := by simpa using fun z : ("self" : Str) = vn => S.nv.1 z.symm
    simp [List.lookup, nv']
  refine ks_wpAny_isType_cls (kin1 _ _ hC) rfl ⟨rfl, ?_⟩
  refine ks_wpAny_call_super (kin1 _ _ hC) rfl ga rfl (fun c z => by cases z) (PySem.W.looks_mroIn kin1 S.sub) (fun h2 e2 kp2 => ?_)
  have kin2 : K.In h2 := kin1.keeps kp2
  have J2 : PySem.W.InstAt h2 a _ C none := ⟨kp2 _ _ ga, rfl, rfl, trivial⟩
  have hsup : PySem.W.alongIn K "__init__" (((Value.ref C :: bm).dropWhile (· != .ref C)).drop 1) = some (some (.builtin "ValueError.__init__")) := by
    have z := S.sup
    unfold PySem.W.ks_superIn at z
    rw [hcl] at z
    exact z
  refine PySem.W.kxs_getMethod PySem.W.kxs_ValueError e2 (PySem.W.looks_opaque kin2 S.opq) (l₀ := Value.ref C :: bm) (fun A Q E s k q => wpAny_bind ((PySem.W.looks_clsIn kin2 hcl) A _ E s k (wpAny_pure q))) rfl kin2 hsup (J2.type.andThen (PySem.W.looks_mroIn kin2 S.ve)) (PySem.W.ks_ne kin2 J2 hcl) (by decide) ?_
  have gu : (h2.push (PySem.W.kxs_mw "ValueError.__init__" a)).get? h2.objs.size = some (PySem.W.kxs_mw "ValueError.__init__" a) := Heap.get?_push_at rfl rfl
  have kp3 : ∀ b o, h1.get? b = some o → (h2.push (PySem.W.kxs_mw "ValueError.__init__" a)).get? b = some o := fun b o e => Heap.get?_push_of_some _ (kp2 _ _ e)
  refine PySem.W.kxs_callWith (i := "ValueError.__init__") (x := a) rfl ?_
  refine Calls.evalArgs_plain (x := eval (.Constant (.str msg) j p3) (PySem.W.ksEnv ql sc st.heap.objs.size f (.ref cda) cc)) (rest := []) ?_
  refine Calls.spliced_cons (Calls.Constant_str (Calls.spliced_nil ?_))
  refine ⟨gu, ?_⟩
  refine call_mw (kp3 _ _ (kin1 _ _ hC)) (kp3 _ _ ga) gu (show 1 ≤ sizeLine by decide) (fun h4 t4 kp4 ga4 => ?_)
  have J0 := (I.kept (t' := 0) kp3).write (t' := st.toks + 2 + 1 + 1) (x := a) (e := a) (o := exo a C none) (by rw [ha]; exact True.intro) (.inl rfl) kp4 ⟨_, ga4⟩ (exo_ok ga4)
  have eu : upd h a (exo a C none) = h := by
    funext b
    by_cases hb : b = a
    · rw [hb, upd_same, ha]
    · rw [upd_ne hb]
  rw [eu] at J0
  have ps : PSs (supCx CX0 P w K mg base ["self", vn] ql sc f cda cc A out st h W) [.Assign [.Attribute (.Name "self" q1) fld q2] (.Name vn q3) q4] _ := pss_one (ps_ost (pv 0 rfl (.inl kself)) (pv 1 rfl (.inl kvn) S.nv.2.1 S.nv.2.2))
  refine wpAt_of_wpAny (wpAny_mono (ps.run [] _ [some (.ref a), some v] h { nx := fun _ h' => Z .non h', rt := Z } J0 ?_) (fun flow s2 res => ?_) fun _ _ z => z)
  · refine ⟨v, rfl, .ref a, rfl, a, C, rfl, T, S.nof, .inl ⟨ha, fun dx ndx nda => ?_⟩⟩
    exact q dx ndx nda
  · cases flow with
    | ret u => exact let ⟨v, _, h2, J, rel, z⟩ := res; ⟨v, h2, J.os, J.bare, J.base, J.hok, rel, z⟩
    | next => exact let ⟨_, h2, J, z⟩ := res; ⟨.non, h2, J.os, J.bare, J.base, J.hok, rfl, z⟩
    | brk => exact (let ⟨_, _, _, z⟩ := res; z : False).elim
    | cont => exact (let ⟨_, _, _, z⟩ := res; z : False).elim
/-! ### an exception kept behind its suite -/
/-- at a: an exception of the class cls, its dict at d -/
def exh (a : Addr) (cls : Value) (d : Option Addr) : HO := .ext fun h => ∃ (o : Obj) (vs : Array Value), h.get? a = some o ∧ Zc cls d o ∧ o.data = .fields vs
theorem exh_at {P : Program} {w : World} {H : Hp} {h : Heap} {a : Addr} {cls : Value} {d : Option Addr} (ok : HOk P w H h) (e : H a = some (exh a cls d)) : ∃ (o : Obj) (vs : Array Value), h.get? a = some o ∧ Zc cls d o ∧ o.data = .fields vs := by
  have z := ok a _ e
  exact z.1
theorem exh_ok {P : Program} {w : World} {H : Hp} {h : Heap} {a : Addr} {cls : Value} {d : Option Addr} {o : Obj} {vs : Array Value} (e : h.get? a = some o) (z : Zc cls d o) (hd : o.data = .fields vs) : ObjOk P w H h a (exh a cls d) :=
  ⟨⟨o, vs, e, z, hd⟩, ⟨o, e⟩, fun h1 h2 ⟨o1, vs1, e1, z1, d1⟩ k => ⟨o1, vs1, k _ e1, z1, d1⟩⟩
/-- an object that was not there at the def's start is followed from now on -/
theorem track {X : Cx} {pins : List (Addr × Obj)} {σ : L2.St} {H : Hp} {s : Shared} {a : Addr} {o : Obj} {vs : Array Value} {cls : Value} {d : Option Addr} (I : Inv X ((a, o) :: pins) σ H s) (z : Zc cls d o) (hd : o.data = .fields vs) (new : X.s_0.heap.get? a = none)
    (nop : ∀ p ∈ X.pn ++ pins, p.1 ≠ a) : Inv X pins σ (upd H a (exh a cls d)) s := by
  obtain ⟨ea, na, nl, nf, _⟩ := I.pin (a, o) (List.mem_append_right _ List.mem_cons_self)
  refine ⟨I.ok, I.os, I.bare, ⟨I.base.keep, I.base.slot, fun b ob e n x => ?_, I.base.there, fun b xs e => ?_, fun b ob u e => ?_, fun b ps e => ?_⟩, I.loc, I.cell, ?_, fun y c e => ?_, fun p hp => ?_, fun b u e => ?_, I.len⟩
  · rw [upd_ne (fun z => by rw [z, new] at e; cases e)]
    exact I.base.free b ob e n x
  · have z := I.base.tups b xs e
    rw [upd_ne (ne_of_none z na)]
    exact z
  · have z := I.base.frzs b ob u e
    rw [upd_ne (ne_of_none z na)]
    exact z
  · obtain ⟨m, z⟩ := I.base.tbls b ps e
    exact ⟨m, by rw [upd_ne (ne_of_none z na)]; exact z⟩
  · rw [upd_ne (Ne.symm nl)]
    exact I.free
  · obtain ⟨v, oc, ec, dc⟩ := I.cell y c e
    rw [upd_ne (fun z => by rw [z, ea] at ec; cases ec; rw [hd] at dc; cases dc)]
    exact I.freeC y c e
  · have hp' : p ∈ X.pn ++ ((a, o) :: pins) := by
      rcases List.mem_append.mp hp with z | z
      · exact List.mem_append_left _ z
      · exact List.mem_append_right _ (List.mem_cons_of_mem _ z)
    obtain ⟨g1, g2, g3, g4, g5⟩ := I.pin p hp'
    exact ⟨g1, by rw [upd_ne (nop p hp)]; exact g2, g3, g4, g5⟩
  · by_cases hb : b = a
    · subst hb
      rw [upd_same] at e
      cases e
      exact exh_ok ea z hd
    · rw [upd_ne hb] at e
      exact (I.hok b u e).stay (fun c v _ k => k) (fun c k => by rw [upd_ne (ne_of_none k na)]; exact k) fun c xs k => by rw [upd_ne (ne_of_none k na)]; exact k
/-- what 'except x as n: ..' wishes, n's object followed behind the suite -/
def wKeep (K : PySem.W.Frag) (c : Value) (i : Nat) (ts : Addr → Value → Option Addr → TS) (Wout : WX) (D : Ends) : WX := fun cls d σ H =>
  ∃ yes, PySem.W.exmOne K cls c = some yes ∧ (yes = true → ∀ a, H a = none → ts a cls d { nx := fun σ' H' => D.nx (σ'.set i none) (upd H' a (exh a cls d)), rt := D.rt, bk := fun _ _ => False, ct := fun _ _ => False } (σ.set i (some (.ref a))) H) ∧ (yes = false → Wout cls d σ H)
section
variable {X : Cx} {x n : Str} {c : Value} {i : Nat} {body suite : List Stmt} {b₀ : Stmt} {np pos pos' : Pos} {tb : WX → TS} {ts : Addr → Value → Option Addr → TS} {Wout : WX}
theorem ps_try_keep (hst : X.stack = X.env :: X.outer) (hfm : X.env.frame = some X.env.locals) (nd : X.N.Nodup) (hix : X.N[i]? = some n) (loc : X.env.kindOf n = some .local) (nam : Names X x c) (tks : Takes X Wout) (hex : X.ex = [])
    (bodyOk : ∀ (W : WX) (pn : List (Addr × Obj)) (xe : Value → Shared → Prop), Takes (X.tr pn xe) W → PassesOwn (model X.prog X.w) X.A X.env xe → PSs (X.tr pn xe) body (tb W))
    (suiteOk : ∀ (a : Addr) (oe : Obj) (cls : Value) (d : Option Addr) (pn : List (Addr × Obj)), Zc cls d oe → (∃ vs, oe.data = .fields vs) → PSs (X.suite a ((a, oe) :: pn)) (b₀ :: suite) (ts a cls d)) :
    PS X (.Try body [.ExceptHandler (some (.Name x np)) (some n) (b₀ :: suite) pos'] [] [] pos) (fun D σ H => tb (wKeep X.K c i ts Wout D) D σ H) := by
  refine ⟨fun pins st σ h D inv rdg => ?_⟩
  have okX := inv.ok
  have fr := okX.frames; rw [hst] at fr
  refine (wpAny_Try_except ?_)
  refine wpAny_mono ((bodyOk (wKeep X.K c i ts Wout D) (X.pn ++ pins) (fun e t1 => wpAny (model X.prog X.w) X.A (noteFrame e X.env) (fun _ t2 => wpAny (model X.prog X.w) X.A (setFlight e none) (fun _ t3 =>
    wpAny (model X.prog X.w) X.A (handleBy e X.env [.ExceptHandler (some (.Name x np)) (some n) (b₀ :: suite) pos']) (SP X pins D) X.xe t3) X.xe t2) X.xe t1) (fun u st' xx => ?_) PassesOwn.looking).run [] st σ h D (inv.toTry _) rdg) (fun flow t1 res => ?_) (fun _ _ z => z)
  · obtain ⟨a, G, tI, pins', σ1, h1, cls, d, rfl, K1, ground, up, sky, na, eos, ags, yes, q1, qy, qn⟩ := xx
    have I1 : Inv X pins σ1 h1 tI := K1.ofTry okX
    have sky1 : Sky G (X.env :: X.outer) a (Zc cls d) X.env.locals st'.heap := hst ▸ sky
    show wpAny (model X.prog X.w) X.A (noteFrame (.ref a) X.env) _ _ _
    refine Sky.land Zc.steady fr hfm sky1 fun hp3 fly3 up3 => ?_
    have I3 : Inv X pins σ1 h1 { st' with heap := hp3 } := I1.landed ground fly3.1 (up.trans up3) eos ags
    obtain ⟨o3, vs3, g3, z3, d3⟩ := fly3.there
    have nfr : a ∉ frs (X.env :: X.outer) := fun m => by
      obtain ⟨_, o', e', no⟩ := fly3.2.2.1.mem m
      rw [g3] at e'
      cases e'
      exact no _ d3
    have nl : a ≠ X.env.locals := fun z => nfr (List.mem_filterMap.mpr ⟨X.env, List.mem_cons_self, by rw [hfm, z]⟩)
    have nf : a ∉ X.fs := fun m => by
      obtain ⟨e, he, e2⟩ := List.mem_filterMap.mp m
      exact nfr (List.mem_filterMap.mpr ⟨e, List.mem_cons_of_mem _ he, e2⟩)
    have freshI : tI.heap.get? a = none := by
      cases e : tI.heap.get? a with
      | none => rfl
      | some o =>
        have := ground a o e (by rw [hst]; exact nfr)
        rw [fly3.2.1] at this
        cases this
    have fresh0 : X.s_0.heap.get? a = none := by
      cases e : X.s_0.heap.get? a with
      | none => rfl
      | some o =>
        obtain ⟨o', e'⟩ := I1.base.there a o e (by rw [hex]; exact List.not_mem_nil)
        rw [freshI] at e'
        cases e'
    have nop : ∀ p ∈ X.pn ++ pins, p.1 ≠ a := fun p hp z => by
      have := (I1.pin p hp).1
      rw [z, freshI] at this
      cases this
    have S3 := I3.suite g3 d3 na nl nf
    refine wpAny_handleBy_cons (codeAny_handlers_test ?_) (by intro z; cases z)
    have ty3 : PySem.W.Looks (model X.prog X.w) hp3 (typeOf (.ref a)) cls := fun A Q E s k z => wpAny_typeOf_ref (k _ _ g3) (by rw [z3.1]; exact z)
    have mt3 := PySem.W.exm_one (M := model X.prog X.w) (I3.kIn) ty3 q1
    have named : ∀ {Q : Value → Shared → Prop} {E : Value → Shared → Prop}, Q c { st' with heap := hp3 } → wpAny (model X.prog X.w) (X.A.mark (some (.ref a))) (eval (.Name x np) X.env) Q E { st' with heap := hp3 } := fun {Q E} z => by
      obtain ⟨n1, n2, n3 | ⟨n3, n4, n5⟩⟩ := nam
      · exact ld_glob (X := X.suite a ((a, o3) :: (X.pn ++ pins))) S3 n1 n3 z n2
      · exact ld_blt (X := X.suite a ((a, o3) :: (X.pn ++ pins))) S3 n1 n3 n4 z n5 n2
    refine named (mt3.here ?_)
    cases yes with
    | true =>
      refine (codeAny_handlers_suite_as ?_)
      refine HandSPX.lands_againZ fly3 fun hp4 fly4 up4 => ?_
      have I4 : Inv X pins σ1 h1 { st' with heap := hp4 } := I1.landed ground fly4.1 ((up.trans up3).trans up4) eos ags
      obtain ⟨o4, vs4, g4, z4, d4⟩ := fly4.there
      have S4 := I4.suite g4 d4 na nl nf
      refine store_ok (X := X.suite a ((a, o4) :: (X.pn ++ pins))) (v := .ref a) S4 nd hix (.inl loc) rfl (fun t5 S5 => ?_) (.inr loc)
      refine wpAny_mono ((suiteOk a o4 cls d (X.pn ++ pins) z4 ⟨_, d4⟩).run [] t5 _ h1 _ S5 (qy rfl a na)) (fun flow t6 res => ?_) (fun _ _ z => z.elim)
      have back : ∀ {σ6 : L2.St} {h6 : Hp}, Inv (X.suite a ((a, o4) :: (X.pn ++ pins))) [] σ6 h6 t6 → Inv X ((a, o4) :: pins) σ6 h6 t6 := fun {σ6 h6} S6 =>
        (S6.unsuite okX : Inv X pins σ6 h6 t6).pins_of fun p hp => by
          rcases List.mem_cons.mp hp with z | z
          · rw [z]; exact S6.pin (a, o4) (List.mem_append_left _ List.mem_cons_self)
          · exact S6.pin p (List.mem_append_left _ (List.mem_cons_of_mem _ (List.mem_append_right _ z)))
      cases flow with
      | next =>
        obtain ⟨σ6, h6, S6, q6⟩ := res
        exact gone_ok (back S6) nd hix loc fun t7 J7 => ⟨_, _, track J7 z4 d4 fresh0 nop, q6⟩
      | brk => exact (let ⟨_, _, _, z⟩ := res; z : False).elim
      | cont => exact (let ⟨_, _, _, z⟩ := res; z : False).elim
      | ret u =>
        obtain ⟨v6, σ6, h6, S6, r6, q6⟩ := res
        exact gone_ok (S6.unsuite okX) nd hix loc fun t7 J7 => ⟨_, _, _, J7, r6, q6⟩
    | false =>
      show wpAny _ X.A (handleBy (.ref a) X.env []) _ _ _
      refine (wpAny_handleBy_nil ?_)
      obtain ⟨j1, j2, j3, oe, vs, T, oT, ts', he, hz, hd, hv1, hr⟩ := id fly3
      unfold PySem.passOn
      refine (wpAny_bind (wpAny_field he hd hv1 ?_)); rw [if_neg (show ¬ ((Value.ref T == Value.none) = true) from by simp)]
      have last : wpAny (model X.prog X.w) X.A (setFlight (.ref a) X.env.frame) (fun _ t4 => wpAny (model X.prog X.w) X.A (throw (.ref a) : Sem Flow) (SP X pins D) X.xe t4) X.xe { st' with heap := hp3 } := by
        rw [hfm]
        refine HandSPX.setFlight_upZ fly3 fun hp4 held4 up4 => wpAny_throw (tks _ _ ?_)
        exact ⟨a, G, tI, pins, σ1, h1, cls, d, rfl, I1, ground, (up.trans up3).trans up4, .inr (.inr (by rw [hst]; exact held4)), na, eos, ags, qn rfl⟩
      first | exact wpAny_bind (wpAny_pure (wpAny_bind last)) | exact wpAny_bind last
  · cases flow with
    | next => exact let ⟨σ2, h2, J, q⟩ := res; wpAny_execs_nil ⟨σ2, h2, J.ofTry okX, q⟩
    | brk => exact let ⟨σ2, h2, J, q⟩ := res; ⟨σ2, h2, J.ofTry okX, q⟩
    | cont => exact let ⟨σ2, h2, J, q⟩ := res; ⟨σ2, h2, J.ofTry okX, q⟩
    | ret u => exact let ⟨v, σ2, h2, J, r, q⟩ := res; ⟨v, σ2, h2, J.ofTry okX, r, q⟩
end
/-! ### what is asked of a kept exception -/
def tXh (K : PySem.W.Frag) (f : Str) (te : TE) : TE := fun σ H Q => te σ H fun x H1 => ∃ (a C dd : Addr) (fs : List (Str × V)) (v : V), x = .ref a ∧ H1 a = some (exh a (.ref C) (some dd)) ∧ H1 dd = some (.xd fs) ∧ XfC K C ∧ PySem.W.findIn K (.ref C) f = some none ∧ fs.lookup f = some v ∧ Q v H1
theorem pe_xh {X : Cx} {e : Expr} {te : TE} {pos : Pos} {n : Str} (he : PE X e te) (hb : attributeBase e n X.env (eval e X.env) = eval e X.env := by rfl) : PE X (.Attribute e n pos) (tXh X.K n te) := by
  refine ⟨fun pins st σ h Q inv rdg => attr_of hb (thn (he.run pins st σ h _ inv rdg) fun u s1 res => ?_)⟩
  obtain ⟨x, h1, I1, rx, a, C, dd, fs, v, rfl, ea, ed, T, no, look, q⟩ := res
  obtain rfl : u = Value.ref a := rx
  obtain ⟨o, vs, g, z, hd⟩ := exh_at I1.hok ea
  obtain ⟨mA, ns, rel⟩ := (I1.hok dd _ ed : ObjOk X.prog X.w h1 s1.heap dd (.xd fs))
  obtain ⟨od, ho, hl⟩ := lookIn_ns ns
  obtain ⟨u, hu, ru⟩ := RelO.some_of (v := v) (o := mA n) (look ▸ rel n)
  have J : PySem.W.InstAt s1.heap a o C (some od) := ⟨g, z.1, by unfold PySem.W.notCls; rw [hd] <;> rfl, z.2.symm ▸ ho⟩
  exact HandSPX.exc_get I1.kIn J T.ga T.gg T.exC (PySem.W.findObj_own T.hdC no rfl (by rw [hl, hu])) (handed_of ru) ⟨v, h1, I1.tok _, ru, q⟩
/-- isinstance(y, c), y a kept exception with a dict -/
def rIsH (K : PySem.W.Frag) : List V → Hp → VK → Prop := fun xs H Q => ∃ (a C dd : Addr) (fs : List (Str × V)) (c : V) (u : Value) (b : Bool), xs = [.ref a, c] ∧ H a = some (exh a (.ref C) (some dd)) ∧ H dd = some (.xd fs) ∧ ExcC K C ∧ ClsV c u ∧ PySem.W.kitOne K (.ref C) u = some b ∧ Q (.bl b) H
theorem call_isH {X : Cx} : CallR X (.builtin "isinstance") (rIsH X.K) := by
  intro pins st σ h xs us Q inv rel pre
  obtain ⟨a, C, dd, fs, c, u, b, rfl, ea, ed, T, k, e, q⟩ := pre
  obtain ⟨w1, w2, rfl, r1, r2⟩ := vals2 rel
  obtain rfl : w1 = Value.ref a := r1
  obtain rfl := k.eq r2
  obtain ⟨o, vs, g, z, hd⟩ := exh_at inv.hok ea
  obtain ⟨mA, ns, rl⟩ := (inv.hok dd _ ed : ObjOk X.prog X.w h st.heap dd (.xd fs))
  obtain ⟨od, ho, hl⟩ := lookIn_ns ns
  have J : PySem.W.InstAt st.heap a o C (some od) := ⟨g, z.1, by unfold PySem.W.notCls; rw [hd] <;> rfl, z.2.symm ▸ ho⟩
  have hcl : (PySem.W.clsIn X.K C).isSome = true := by
    have z := T.hd
    unfold PySem.W.hasDictIn at z
    cases e : PySem.W.clsIn X.K C with
    | none => rw [e] at z; cases z
    | some _ => rfl
  exact PySem.W.kia_one (PySem.W.kitx_exc hcl T.hg T.hk T.hs T.ha T.hn T.ht T.hm) inv.kIn J e (fun z => nomatch z) fun tk => ⟨.bl b, h, inv.tok tk, rfl, q⟩
/-! ### raise C(e) -/
structure ErrMk (P : Program) (w : World) (K : PySem.W.Frag) (mg : Str → Option Value) (base : Heap) (C : Addr) (x fld : Str) : Prop where
  ex : ∃ (fI : Addr) (fd : FuncData) (vn : Str), OexC K C ∧ PySem.W.findIn K (.ref C) "__init__" = some (some (.ref fI)) ∧ PySem.W.typeIn K (.ref fI) = some (.type "function") ∧ FnOk P w K mg base CX0 1 fI fd ["self", vn] (spXI C fld) ∧ Binds K fd ["self", vn] [] ∧ mg x = some (.ref C)
theorem pmkC {X : Cx} {C : Addr} {x fld : Str} {e : Expr} {es : List Expr} {p pos : Pos} {ta : TA} (c : ErrMk X.prog X.w X.K X.mg X.base C x fld) (room : Room 2 X.A) (gl : Gl X x) (ha : PA X (e :: es) ta)
    (d1 : (x == ("__debug__" : Str)) = false := by decide) (d2 : starEach (e :: es) X.env = (false, eval e X.env) :: starEach es X.env := by rfl) (d3 : (backTo pos (starEach es X.env)).any (·.1) = false := by rfl) :
    PMk X (.Call (.Name x p) (e :: es) [] pos) (tMkO C (spXI C fld) [] ta) := by
  obtain ⟨fI, fd, vn, T, i1, i2, F, b, hm⟩ := c.ex
  exact pmk_oex T i1 i2 F room b .nil pass0 gl hm ha d1 d2 d3
theorem r_raiseO {σ : L2.St} {H : Hp} {te : TE} {C : Addr} {fld : Str} {W : XK} (q : te σ H fun v H1 => ∀ (d : Addr) (H' : Hp), Same H1 H' → H' d = some (.xd [(fld, v)]) → W (.ref C) (some d) H') (mono : ∀ (Q1 Q2 : VK), (∀ v H1, Q1 v H1 → Q2 v H1) → te σ H Q1 → te σ H Q2) :
    tMkO C (spXI C fld) [] (tCons te tNil) σ H W := by
  refine mono _ _ (fun v H1 g => ?_) q
  refine ⟨(show 1 ≤ 1000 by decide), fun a na => ⟨a, v, rfl, upd_same, fun dx ndx nda => ?_⟩⟩
  have n1 : H1 dx = none := by
    rw [upd_ne nda] at ndx
    exact ndx
  refine ⟨rfl, dx, [(fld, v)], upd_same, by rw [upd_ne nda]; exact upd_same, n1, g dx _ (fun b o e => ?_) upd_same⟩
  have b1 := ne_of_none e n1
  have b2 := ne_of_none e na
  rw [upd_ne b1, del_ne b2, upd_ne b2, upd_ne b1, upd_ne b2]
  exact e
theorem mono_var {i : Nat} {σ : L2.St} {H : Hp} (Q1 Q2 : VK) (h : ∀ v H1, Q1 v H1 → Q2 v H1) : tVar i σ H Q1 → tVar i σ H Q2 := fun ⟨v, e, q⟩ => ⟨v, e, h _ _ q⟩
end KX

/-! KY: values of many kinds: none, truths, numbers, texts, tuples, lists and dicts of such; repr of a pair, in, isinstance. -/
namespace KY
open PySem PySem.Spec PyProof.Rows L2 KB KG
inductive Sc where
  | non | bl (b : Bool) | int (i : Int) | str (x : Str)
  deriving DecidableEq
def Sc.v : Sc → V
  | .non => .non
  | .bl b => .bl b
  | .int i => .int i
  | .str x => .str x
def Sc.d : Sc → PyData
  | .non => .none
  | .bl b => .bool b
  | .int i => .int i
  | .str x => .str x
inductive Dt where
  | sc (s : Sc) | tup (l : List Sc) | lst (l : List Sc) | dct (l : List (Key × Sc))
def keyD : Key → PyData
  | .inl i => .int i
  | .inr x => .str x
def Dt.d : Dt → PyData
  | .sc s => s.d
  | .tup l => .tuple (l.map Sc.d)
  | .lst l => .list (l.map Sc.d)
  | .dct l => .dict (l.map fun p => (keyD p.1, p.2.d))
def OdAt (H : Hp) (v : V) : Dt → Prop
  | .sc s => v = s.v
  | .tup l => ∃ a, v = .ref a ∧ H a = some (.tup (l.map Sc.v))
  | .lst l => ∃ a, v = .ref a ∧ H a = some (.lst (l.map Sc.v))
  | .dct l => ∃ a, v = .ref a ∧ H a = some (.dK (l.map fun p => (p.1, p.2.v)))
theorem OdAt.to {H H' : Hp} {v : V} {t : Dt} (h : OdAt H v t) (k : ∀ a o, v = .ref a → H a = some o → H' a = some o) : OdAt H' v t := by
  cases t with
  | sc s => exact h
  | tup l => obtain ⟨a, e, g⟩ := h; exact ⟨a, e, k a _ e g⟩
  | lst l => obtain ⟨a, e, g⟩ := h; exact ⟨a, e, k a _ e g⟩
  | dct l => obtain ⟨a, e, g⟩ := h; exact ⟨a, e, k a _ e g⟩
theorem OdAt.same {H H' : Hp} {v : V} {t : Dt} (h : OdAt H v t) (s : Same H H') : OdAt H' v t := h.to fun a o _ e => s a o e
/-- it is no object of a class -/
theorem OdAt.notIns {H : Hp} {t : Dt} {a C dx : Addr} {fs : List (Str × V)} (h : OdAt H (.ref a) t) : H a ≠ some (.ins C dx fs) := by
  intro z
  cases t with
  | sc s => cases s <;> cases (show V.ref a = _ from h)
  | tup l => obtain ⟨b, e, g⟩ := h; cases e; rw [z] at g; cases g
  | lst l => obtain ⟨b, e, g⟩ := h; cases e; rw [z] at g; cases g
  | dct l => obtain ⟨b, e, g⟩ := h; cases e; rw [z] at g; cases g
section
variable {X : Cx} {pins : List (Addr × Obj)} {σ : L2.St} {H : Hp} {st : Shared}
theorem sc_reads {h : Heap} {u : Value} : ∀ s : Sc, RelV s.v u → Reads h u s.d []
  | .non, r => by cases (show u = Value.none from r); exact .none
  | .bl b, r => by cases (show u = Value.bool b from r); exact .bool b
  | .int i, r => by obtain ⟨t, rfl⟩ := (show ∃ t, u = Value.int i t from r); exact .int i t
  | .str x, r => by obtain ⟨t, rfl⟩ := (show ∃ t, u = Value.str x t from r); exact .str x t
theorem scs_reads {h : Heap} : ∀ (l : List Sc) (us : List Value), Vals (l.map Sc.v) us → ReadsAll h us (l.map Sc.d) []
  | [], us, r => by cases r; exact .nil
  | s :: l, us, r => by
    cases r with
    | cons r1 r2 => exact .cons (sc_reads s r1) (scs_reads l _ r2)
theorem dict_reads {P : Program} {w : World} {h : Heap} : ∀ (l : List (Key × Sc)) (vs : List (Key × Value)) (es : List DictEntry), KV (l.map fun p => (p.1, p.2.v)) vs → Pairs (mixKind P w) es vs →
    ReadsAll h (es.map (·.key)) ((l.map fun p => (keyD p.1, p.2.d)).map (·.1)) [] ∧ ReadsAll h (es.map (·.val)) ((l.map fun p => (keyD p.1, p.2.d)).map (·.2)) []
  | [], vs, es, k, p => by
    cases k
    cases p
    exact ⟨.nil, .nil⟩
  | (ky, s) :: l, vs, es, k, p => by
    cases k with
    | cons k1 k2 =>
      cases p with
      | cons p1 p2 p3 =>
        rename_i e es
        obtain ⟨g1, g2⟩ := dict_reads l _ _ k2 p3
        have r2 := k1.2
        rw [← p2] at r2
        refine ⟨?_, .cons (sc_reads s r2) g2⟩
        have e1 := k1.1
        have hk : keyIs ky e.key = true := by
          have z := p1
          rw [← e1] at z
          exact z
        have hr : Reads h e.key (keyD ky) [] := by
          rcases keyIs_shape hk with ⟨i, t, rfl, q⟩ | ⟨x, t, rfl, q⟩
          · rw [q]
            exact .int i t
          · rw [q]
            exact .str x t
        exact .cons hr g1
theorem noD_sc : ∀ s : Sc, s.d.hasDict = false
  | .non => rfl
  | .bl _ => rfl
  | .int _ => rfl
  | .str _ => rfl
theorem noD_scs : ∀ l : List Sc, PyData.hasDictAll (l.map Sc.d) = false
  | [] => by simp only [List.map_nil, PyData.hasDictAll]
  | s :: l => by simp only [List.map_cons, PyData.hasDictAll, noD_sc s, noD_scs l, Bool.or_false]
theorem od_reads {v : V} {u : Value} {t : Dt} (inv : Inv X pins σ H st) (o : OdAt H v t) (r : RelV v u) : ∃ as, Reads st.heap u t.d as ∧ (t.d.hasDict = true → sysModules ∉ as) := by
  cases t with
  | sc s =>
    obtain rfl : v = s.v := o
    exact ⟨_, sc_reads s r, fun _ => List.not_mem_nil⟩
  | tup l =>
    obtain ⟨a, rfl, e⟩ := o
    obtain rfl : u = Value.ref a := r
    obtain ⟨its, rv, ⟨ob, ho, hc, n, hd⟩, _⟩ := inv.tuple (SqT.of e)
    exact ⟨_, .tuple ho hc hd (scs_reads l _ rv), fun _ => List.not_mem_nil⟩
  | lst l =>
    obtain ⟨a, rfl, e⟩ := o
    obtain rfl : u = Value.ref a := r
    obtain ⟨its, rv, ⟨ob, n, ho, hc, _, hd⟩, _⟩ := inv.list (SqL.of e)
    refine ⟨_, .list ho hc hd (scs_reads l _ rv), fun z => ?_⟩
    simp only [Dt.d, PyData.hasDict, noD_scs l] at z
    cases z
  | dct l =>
    obtain ⟨a, rfl, e⟩ := o
    obtain rfl : u = Value.ref a := r
    obtain ⟨_, ns, vs, kv, ob, es, ep, ho, hex, hd, _, prs, _⟩ := dk_of inv.hok e
    obtain ⟨g1, g2⟩ := dict_reads (h := st.heap) l _ _ kv prs
    refine ⟨_, .dict ho hex.1 hd g1 g2, fun _ m => ?_⟩
    have m' : sysModules ∈ [a] := m
    rw [List.mem_singleton] at m'
    rw [← m'] at ns
    simp at ns
end
/-! ### repr of [tag, v] -/
section
variable {P : Program} {w : World} {A : Around} {E : Value → Shared → Prop} {s : Shared} {Z : Value → Shared → Prop}
theorem repr_items {a : Addr} {xs : List PyData} {o : Obj} {vs : Array Value} {n : Nat} {as1 : List Addr} (h1 : s.heap.get? a = some o) (h2 : o.cls = .type "list") (h3 : o.data = .seq vs n) (h4 : ReadsAll s.heap vs.toList xs as1) (ne : vs.toList ≠ []) (ok : PyData.showableAll xs = true) (nosys : PyData.hasDictAll xs = true → sysModules ∉ as1)
    (sz : (PyData.list xs).shown.length ≤ sizeLine) (fr : Free A) (hu : A.units + (PyData.list xs).depth + 3 < cLine)
    (q : ∀ h' u tk, (∀ b o, s.heap.get? b = some o → h'.get? b = some o) → Z (.str (PyData.list xs).shown u) { s with heap := h', toks := tk }) : wpAny (model P w) A (call (.builtin "repr") [.ref a]) Z E s := by
  have sz' : (listText (PyData.shownAll xs)).length ≤ sizeLine := by simpa only [PyData.shown] using sz
  have whole : Reads s.heap (.ref a) (.list xs) _ := .list h1 h2 h3 h4
  obtain ⟨bs, lim, kids⟩ := ReprAllK.of_readsAll (prog := P) (w := w) h4 ok nosys (fun t ht => Nat.le_trans (listText_mem_le ht) sz')
  have off : a ∉ bs := not_mem_of_deeper whole (by simp only [PyData.depth]; omega) lim
  simp only [PyData.depth] at hu
  simp only [PyData.shown] at q
  have ty : s.TypeIs (.ref a) "list" := ⟨_, h1, h2⟩
  refine repr_slot (by omega) ty F.slot_list_repr.toG ?_
  obtain ⟨l⟩ := vs
  cases l with
  | nil => exact absurd rfl ne
  | cons x l =>
    refine (wpAny_callSpecialIfBound?_slot (name := Str.ofString "__repr__") ty F.slot_list_repr (call_list_reprK h1 h2 h3 off (by simpa using kids.length_eq) (fun i y e => kids.item i y (by simpa using e)) fr (fun b _ => Clear.nil b) (show A.units + 1 + _ < cLine by omega) (fun _ _ e => e) (fun h' u tk kp => ?_) sz'))
    exact ⟨_, _, rfl, q h' u tk kp⟩
end
/-- the pair [tag, v] as data -/
def pairD (tag : Str) (t : Dt) : PyData := .list [.str tag, t.d]
structure Fit (tag : Str) (t : Dt) : Prop where
  ok : PyData.showable t.d = true
  deep : (pairD tag t).depth ≤ 60
  sz : (pairD tag t).shown.length ≤ sizeLine
section
variable {X : Cx}
def rReprT : List V → Hp → VK → Prop := fun xs H Q => ∃ (p : Addr) (tag : Str) (v : V) (t : Dt), xs = [.ref p] ∧ H p = some (.lst [.str tag, v]) ∧ OdAt H v t ∧ Fit tag t ∧ Q (.str (pairD tag t).shown) H
theorem call_reprT {k : Nat} (fr : Free X.A) (room : Room k X.A) : CallR X (.builtin "repr") rReprT := by
  intro pins st σ h xs us Z inv rel pre
  obtain ⟨p, tag, v, t, rfl, hp, od, fit, z⟩ := pre
  obtain ⟨u, rfl, rv⟩ := vals_one rel
  obtain rfl : u = Value.ref p := rv
  obtain ⟨its, rl, ⟨ob, n, ho, hc, _, hd⟩, _⟩ := inv.list (SqL.of hp)
  cases rl with
  | cons r1 rl =>
    cases rl with
    | cons r2 rl =>
      cases rl
      obtain ⟨tk, rfl⟩ := (show ∃ tk, _ = Value.str tag tk from r1)
      obtain ⟨as, rd, ns⟩ := od_reads inv od r2
      refine repr_items (xs := [.str tag, t.d]) ho hc hd (.cons (.str tag tk) (.cons rd .nil)) (by simp) ?_ (fun y m => ?_) fit.sz fr (by have := room.un; have := fit.deep; unfold pairD at this; omega) fun h' t1 tk' kp => ?_
      · simp only [PyData.showableAll, PyData.showable, fit.ok, Bool.and_true, Bool.true_and]
      · simp only [PyData.hasDictAll, PyData.hasDict, Bool.or_false, Bool.false_or] at y
        exact ns y (by simpa using m)
      · exact ⟨.str (pairD tag t).shown, h, inv.kept kp, ⟨t1, rfl⟩, z⟩
end
/-! ### a text beside a dict -/
section
open PySem.SeqAt PySem.MeetsSeq PySem.AutoSeq1
theorem str_eq_no_dict (b : Str) (u : Tok) (l : Addr) (c : Value) (es : Array DictEntry) (n : Nat) (dd : Option Addr) (sl : Array (Option Value)) :
    Meets (Builtin.«str.__eq__» ⟨[.str b u, .ref l], []⟩) (fun _ R s => s.heap.get? l = some { cls := c, dict := dd, data := .dict es n, slots := sl } ∧ R (.ok (.ret .notImplemented)) s) :=
  .of_wp fun prog w A R s h => by obtain ⟨hp, g, d, tk, os⟩ := s; obtain ⟨hl, h⟩ := h; wp_walk using wpAny_loadPart' hl, wpAny_load hl; exact ⟨_, rfl, h⟩
theorem dict_eq_no_str (l : Addr) (es : Array DictEntry) (n : Nat) (dd : Option Addr) (sl : Array (Option Value)) (b : Str) (u : Tok) :
    Meets (Builtin.«dict.__eq__» ⟨[.ref l, .str b u], []⟩) (fun _ R s => s.heap.get? l = some { cls := .type "dict", dict := dd, data := .dict es n, slots := sl } ∧ R (.ok (.ret .notImplemented)) s) :=
  .of_wp fun prog w A R s h => by obtain ⟨hp, g, d, tk, os⟩ := s; obtain ⟨hl, h⟩ := h; have f1 := F.sub_str_dict; wp_walk using wpAny_loadPart' hl; exact ⟨_, rfl, h⟩
variable {A : Around} {s : Shared}
theorem eqAt_str_dict {l : Addr} {es : Array DictEntry} {n : Nat} {ob : Obj} (b : Str) (u : Tok) (ho : s.heap.get? l = some ob) (hc : ob.cls = .type "dict") (hd : ob.data = .dict es n) (hu : A.units < cLine) : EqAt A s (.str b u) (.ref l) false := fun prog w E Q h => by
  obtain ⟨cls, dd, data, sl⟩ := ob
  simp only at hc hd
  subst hc hd
  unfold eqBool
  refine wpAny_holding ?_
  refine wpAny_ite_split (fun hab => absurd (eq_of_beq hab) nofun) (fun _ => ?_)
  refine wpAny_bind ?_
  exact rc_eq_decline_or (k := false) (typeIs_str s b u) ⟨_, ho, rfl⟩ (by decide) F.sub_dict_str F.slot_str_eq F.slot_dict_eq_refl
    (fun _ hq => call_meets F.slot_str_eq (typeIs_str s b u) F.entry_str_eq (F.args_str_eq_2 _ _) (str_eq_no_dict b u l (.type "dict") es n dd sl) ⟨ho, hq⟩)
    (fun _ hq => call_meets F.slot_dict_eq_refl ⟨_, ho, rfl⟩ F.entry_dict_eq (F.args_dict_eq_2 _ _) (dict_eq_no_str l es n dd sl b u) ⟨ho, hq⟩)
    (fun _ hq => wpAny_of_eq (rfl : isSame (.str b u) (.ref l) = pure false) hq) (.inr hu) (wpAny_truthy_bool h)
end
/-! ### v in a tuple of texts -/
def Dt.isIn (zs : List Str) : Dt → Bool
  | .sc (.str x) => decide (x ∈ zs)
  | _ => false
theorem strs_of : ∀ (zs : List Str) (us : List Value), Vals (zs.map V.str) us → ∀ u ∈ us, ∃ z tk, u = Value.str z tk
  | [], us, r => by cases r; exact fun u m => absurd m List.not_mem_nil
  | z :: zs, us, r => by
    cases r with
    | cons r1 r2 =>
      intro u m
      rcases List.mem_cons.mp m with rfl | m
      · obtain ⟨t, e⟩ := r1
        exact ⟨z, t, e⟩
      · exact strs_of zs _ r2 u m
theorem inV_no {x : V} (h : ∀ y, eqV (.str y) x = false) : ∀ zs : List Str, inV x (zs.map V.str) = false
  | [] => rfl
  | z :: zs => by
    have := inV_no h zs
    unfold inV at this ⊢
    rw [List.map_cons, List.any_cons, h z, this]
    rfl
section
variable {X : Cx}
def rNotInO (K : PySem.W.Frag) : R2 := fun x y H Q => ∃ (p : Addr) (zs : List Str) (t : Dt), y = .ref p ∧ SqT K H p (zs.map V.str) ∧ OdAt H x t ∧ Q (.bl (!t.isIn zs)) H
theorem op_notInO {k : Nat} (room : Room k X.A) : OpR X (compareOp .NotIn) (rNotInO X.K) := by
  intro pins st σ h x y v u Z inv rx ry pre
  obtain ⟨p, zs, t, rfl, sq, od, z⟩ := pre
  have un := room.un
  have flat : ∀ sc : Sc, x = sc.v → inV x (zs.map V.str) = (Dt.sc sc).isIn zs → t = .sc sc → wpAny (model X.prog X.w) X.A (compareOp .NotIn v u) (EP X pins σ Z) X.xe st := by
    intro sc e1 e2 e3
    subst e3
    refine op_notIn_seq pins st σ h x (.ref p) v u Z inv rx ry ⟨p, _, rfl, .inr sq, ?_, KB.flat_strs zs, ?_⟩
    · rw [e1]
      cases sc <;> rfl
    · show Z (.bl (!inV x (zs.map V.str))) h
      rw [e2]
      exact z
  have far : t.isIn zs = false → (∀ b tk A', A'.units ≤ X.A.units + 1 → SeqAt.EqAt A' st (.str b tk) v false) → wpAny (model X.prog X.w) X.A (compareOp .NotIn v u) (EP X pins σ Z) X.xe st := by
    intro e1 e2
    obtain rfl : u = Value.ref p := ry
    obtain ⟨its, r, pl, hz⟩ := inv.tuple sq
    refine SeqAt.notIn_tupleAt (fun _ => false) pl (fun w hw => ?_) ⟨.bl true, h, inv, ?_, ?_⟩
    · obtain ⟨b, tk, rfl⟩ := strs_of zs its r w (by simpa using hw)
      exact e2 b tk _ (Nat.le_refl _)
    · show Value.bool _ = Value.bool true
      simp
    · rw [e1] at z
      exact z
  cases t with
  | sc s =>
    have e : x = s.v := od
    refine flat s e ?_ rfl
    rw [e]
    cases s with
    | non => exact inV_no (fun _ => rfl) zs
    | bl b => exact inV_no (fun _ => rfl) zs
    | int i => exact inV_no (fun _ => rfl) zs
    | str x => exact inV_strs zs
  | tup l =>
    obtain ⟨a, rfl, e⟩ := od
    obtain rfl : v = Value.ref a := rx
    obtain ⟨its, rv, tp, _⟩ := inv.tuple (SqT.of e)
    exact far rfl fun b tk A' hA => SeqAt.EqAt.str_tuple b tk tp (by omega)
  | lst l =>
    obtain ⟨a, rfl, e⟩ := od
    obtain rfl : v = Value.ref a := rx
    obtain ⟨its, rv, tp, _⟩ := inv.list (SqL.of e)
    exact far rfl fun b tk A' hA => SeqAt.EqAt.str_list b tk tp.isList (by omega)
  | dct l =>
    obtain ⟨a, rfl, e⟩ := od
    obtain rfl : v = Value.ref a := rx
    obtain ⟨_, ns, vs, kv, ob, es, ep, ho, hex, hd, _, prs, _⟩ := dk_of inv.hok e
    exact far rfl fun b tk A' hA => eqAt_str_dict b tk ho hex.1 hd (by omega)
end
/-! ### its type -/
def Dt.ty : Dt → String
  | .sc .non => "NoneType"
  | .sc (.bl _) => "bool"
  | .sc (.int _) => "int"
  | .sc (.str _) => "str"
  | .tup _ => "tuple"
  | .lst _ => "list"
  | .dct _ => "dict"
theorem OdAt.tyX {K : PySem.W.Frag} {H : Hp} {v : V} {t : Dt} (h : OdAt H v t) : TyX K H v (.type t.ty) := by
  cases t with
  | sc s =>
    obtain rfl : v = s.v := h
    cases s with
    | non => exact .base .non
    | bl b => exact .base (.bl b)
    | int i => exact .base (.int i)
    | str x => exact .base (.str x)
  | tup l => obtain ⟨a, rfl, e⟩ := h; exact .base (.tup e)
  | lst l => obtain ⟨a, rfl, e⟩ := h; exact .base (.lst e)
  | dct l => obtain ⟨a, rfl, e⟩ := h; exact .base (.dK e)
def Dt.isStr : Dt → Bool
  | .sc (.str _) => true
  | _ => false
theorem r_isStr {K : PySem.W.Frag} {H : Hp} {Q : VK} {v : V} {t : Dt} (h : OdAt H v t) (q : Q (.bl t.isStr) H) : rIsi K [v, .ty "str"] H Q := by
  refine ⟨v, .ty "str", _, .type "str", t.isStr, rfl, .ty _, h.tyX, ?_, q⟩
  have h1 : kitB "NoneType" "str" = some false ∧ kitB "bool" "str" = some false ∧ kitB "int" "str" = some false ∧ kitB "str" "str" = some true ∧ kitB "tuple" "str" = some false ∧ kitB "list" "str" = some false ∧ kitB "dict" "str" = some false := by decide +kernel
  cases t with
  | sc s =>
    cases s with
    | non => exact kit_ty h1.1
    | bl b => exact kit_ty h1.2.1
    | int i => exact kit_ty h1.2.2.1
    | str x => exact kit_ty h1.2.2.2.1
  | tup l => exact kit_ty h1.2.2.2.2.1
  | lst l => exact kit_ty h1.2.2.2.2.2.1
  | dct l => exact kit_ty h1.2.2.2.2.2.2
/-! ### list.count of truths -/
section
variable {X : Cx}
def rCntB (K : PySem.W.Frag) : V → List V → Hp → VK → Prop := fun x xs H Q => ∃ (p : Addr) (bs : List Bool) (b : Bool), x = .ref p ∧ xs = [.bl b] ∧ SqL K H p (bs.map V.bl) ∧ Q (.int (bs.count b : Nat)) H
theorem bls_of : ∀ (bs : List Bool) (us : List Value), Vals (bs.map V.bl) us → us = bs.map Value.bool
  | [], us, r => by cases r; rfl
  | b :: bs, us, r => by
    cases r with
    | cons r1 r2 =>
      rw [bls_of bs _ r2, show _ = Value.bool b from r1]
      rfl
theorem mt_countB : MtR X "list.count" (rCntB X.K) := by
  intro pins s σ H x xs v us Q I rx rxs h
  obtain ⟨p, bs, b, rfl, rfl, hs, q⟩ := h
  cases rx
  obtain ⟨u, rfl, ru⟩ := rxs.one
  obtain rfl : u = Value.bool b := ru
  obtain ⟨its, rv, ⟨⟨cls, dd, data, sl⟩, n, ho, hc, hdn, hd⟩, hlen⟩ := I.list hs
  simp only at hc hd
  subst hc hd
  have hi := bls_of bs its rv
  subst hi
  refine call_meets PySem.F.slot_list_count ⟨_, ho, rfl⟩ PySem.F.entry_list_count (PySem.F.args_list_count_2 _ _)
    (SeqAt.list_countAt p (bs.map Value.bool).toArray n dd sl (.bool b) (fun y => match y with | .bool c => c == b | _ => false)) ⟨ho, fun y hy => ?_, ?_⟩
  · have hy' : y ∈ bs.map Value.bool := by simpa using hy
    obtain ⟨c, _, rfl⟩ := List.mem_map.mp hy'
    exact SeqAt.EqAt.bool_bool c b
  · have ec : (bs.map Value.bool).toArray.toList.countP (fun y => match y with | .bool c => c == b | _ => false) = bs.count b := by
      show (bs.map Value.bool).countP _ = _
      rw [List.countP_map]
      rfl
    refine ⟨.int (bs.count b : Nat), H, I.tok _, ⟨s.toks, ?_⟩, q⟩
    show Value.int ((_ : Nat) : Int) s.toks = Value.int ((bs.count b : Nat) : Int) s.toks
    rw [ec]
end
end KY

/-! KL: lambdas handed to a def that asks them; the law's end with tables of code objects, no repr under way; own == beside other types. -/
namespace KL
open PySem PySem.Spec PyProof.Rows L2 KB KG LamX
/-! ### the law's end -/
section
variable {P : Program} {w : World} {K : PySem.W.Frag} {mg bm : Str → Option Value} {k : Nat} {fa a : Addr} {cs : List (Addr × Addr)} {fd : FuncData} {x : Str} {sp : Sp} {st : Shared} {us : List Value} {ns : List Int}
def TabIs (cs : List (Addr × Addr)) (b : Addr) : Prop := ∃ p ∈ cs, p.2 = b
theorem law_GT (kin : K.In st.heap) (gl : st.heap.Ns mainGlobals mg) (bl : st.heap.Ns builtinsNs bm) (bb : ∀ y : Str, y ≠ "__name__" → bm y = bootBuiltins y) (nolim : st.heap.NoLimit) (nogen : st.gens = #[])
    (empty : ∀ p ∈ cs, st.heap.get? p.2 = some (PySem.W.tabObj #[])) (off : ∀ p ∈ cs, K.lookup p.2 = none) (codes : ∀ p ∈ cs, PySem.W.CodeHd st.heap p.1 p.2)
    (bmain : ∃ (m : Addr) (ob : Obj), mg "__builtins__" = some (.ref m) ∧ m ≠ builtinsNs ∧ st.heap.get? m = some ob ∧ ob.cls = .type "module" ∧ ob.dict = some builtinsNs ∧ ob.data = .plain)
    (at_ : st.heap.get? a = some { cls := .type "list", data := .seq us.toArray }) (allInt : IntsAre us ns) (few : ns.length ≤ sizeLine) (room : Room k callerA)
    (F : ∀ base : Heap, K.In base → base.Ns mainGlobals mg → (∀ p ∈ cs, TabB base mg p.1 p.2) → FnG P w K mg base CX0 k fa fd [x] sp) (bind : ∀ (s : Shared) (u : Value), BindsTo s fd ⟨[u], []⟩ [(x, u)])
    (pre : ∀ H : Hp, (∀ p ∈ cs, H p.2 = some (.tbl #[])) → SqL K H a (ns.map V.int) → sp [.ref a] H (fun v _ => v = .bl true) fun _ _ _ => False) :
    codeAny (model P w) callerA (.call (.ref fa) ⟨[.ref a], []⟩) (fun r s2 => r = .ok (.ret (.bool true)) ∧ OldK st.heap s2.heap ∧ s2.os = st.os ∧ AllBare s2.gens) st := by
  classical
  have isT : ∀ {b : Addr}, TabIs cs b → st.heap.get? b = some (PySem.W.tabObj #[]) := fun {b} ⟨p, hp, e⟩ => e ▸ empty p hp
  have aT : ¬ TabIs cs a := fun z => by
    have y := isT z
    rw [at_] at y
    have y2 : Data.seq us.toArray _ = Data.fields #[] := congrArg Obj.data (Option.some.inj y)
    cases y2
  have main : ∀ H : Hp, (∀ b, TabIs cs b → H b = some (.tbl #[])) → (∀ b, H b = none ∨ TabIs cs b ∨ ∃ o ys, H b = some (.frz o (.lst ys))) → SqL K H a (ns.map V.int) → HOk P w H st.heap → (∀ b, H b ≠ none → b = a ∨ TabIs cs b) → (H a ≠ none → K.lookup a = none) →
      codeAny (model P w) callerA (.call (.ref fa) ⟨[.ref a], []⟩) (fun r s2 => r = .ok (.ret (.bool true)) ∧ OldK st.heap s2.heap ∧ s2.os = st.os ∧ AllBare s2.gens) st := by
    intro H tabs only sq hok isA noK
    have free_of : ∀ {b : Addr} {o : Obj}, st.heap.get? b = some o → (∀ ys m, o.data ≠ .seq ys m) → o.data ≠ .fields #[] → H b = none := by
      intro b o e nd nf
      cases q : H b with
      | none => rfl
      | some z =>
        rcases isA b (by rw [q]; simp) with eb | eb
        · rw [eb, at_] at e
          exact absurd (congrArg Obj.data (Option.some.inj e)).symm (nd _ _)
        · rw [isT eb] at e
          exact absurd (congrArg Obj.data (Option.some.inj e)).symm nf
    have kb : K.In (hidT st.heap H) := by
      intro b o e
      refine hidT_get (kin b o e) ?_
      cases q : H b with
      | none => rfl
      | some z =>
        rcases isA b (by rw [q]; simp) with eb | ⟨p, hp, eb⟩
        · rw [eb] at e q
          rw [noK (by rw [q]; simp)] at e
          cases e
        · rw [← eb, off p hp] at e
          cases e
    have ns_of : ∀ {b : Addr} {m : Str → Option Value}, st.heap.Ns b m → (hidT st.heap H).Ns b m := by
      intro b m h
      obtain ⟨o, es, ep, e, d, r⟩ := h
      exact ⟨o, es, ep, hidT_get e (free_of e (fun ys n z => by rw [d] at z; cases z) (fun z => by rw [d] at z; cases z)), d, r⟩
    have hm : Mod K mg (hidT st.heap H) := ⟨kb, ns_of gl, ⟨bm, ns_of bl, bb⟩, by obtain ⟨mc, z1, z2⟩ := nolim; exact ⟨mc, ns_of z1, z2⟩⟩
    have tb : ∀ p ∈ cs, TabB (hidT st.heap H) mg p.1 p.2 := by
      intro p hp
      have hTp := empty p hp
      refine ⟨?_, ?_, fun z => ?_⟩
      · obtain ⟨o, ws, file, tf, flags, tg, inF, text, tt, e1, r1, r2, r3, rest⟩ := codes p hp
        refine ⟨o, ws, file, tf, flags, tg, inF, text, tt, hidT_get e1 (free_of e1 (fun ys n z => by rw [r2] at z; cases z) (fun z => ?_)), r1, r2, r3, rest⟩
        rw [r2] at z
        cases z
        simp at r3
      · obtain ⟨m, ob, b1, b2, b3, b4, b5, b6⟩ := bmain
        refine ⟨m, ob, b1, b2, fun q => ?_, fun q => ?_, hidT_get b3 (free_of b3 (fun ys n z => by rw [b6] at z; cases z) (fun z => by rw [b6] at z; cases z)), b4, b5, b6⟩
        · obtain ⟨o, es, ep, e, hd, _⟩ := gl
          rw [q, e] at b3
          cases b3
          rw [hd] at b6
          cases b6
        · rw [q, hTp] at b3
          cases b3
          cases b6
      · obtain ⟨o, es, ep, e, hd, _⟩ := gl
        rw [z, hTp] at e
        cases e
        cases hd
    have env : Env0 P w K mg (hidT st.heap H) callerA [] st H := ⟨rfl, hm, fun b o e => of_hidT e, Nat.le_of_eq (hidT_size _ _), trivial, fun b z => (List.not_mem_nil z).elim, hok, .of_eq nogen⟩
    refine codeAny_mono ((F _ kb (ns_of gl) tb).go callerA rfl [] st H ⟨[.ref a], []⟩ [.ref a] [.ref a] _ _ room env (bind st (.ref a)) (.cons rfl .nil) (pre H (fun p hp => tabs _ ⟨p, hp, rfl⟩) sq)) fun res s2 z => ?_
    match res, z with
    | .error e, z => exact z.elim
    | .ok .next, z => exact z.elim
    | .ok .brk, z => exact z.elim
    | .ok .cont, z => exact z.elim
    | .ok (.ret u), z =>
      obtain ⟨v, H2, z1, z2, un, hok2, rel, rfl⟩ := z
      obtain rfl : u = Value.bool true := rel
      have stay : ∀ b o, ¬ TabIs cs b → st.heap.get? b = some o → s2.heap.get? b = some o := by
        intro b o nb e
        cases q : H b with
        | none => exact un.keep b o e q (fun y => List.not_mem_nil y) (fun y => List.not_mem_nil y)
        | some y =>
          rcases only b with y1 | y1 | ⟨o1, ys, y1⟩
          · rw [q] at y1; cases y1
          · exact absurd y1 nb
          · have y2 := (hok b _ y1).1
            have y3 := (hok2 b _ (un.frzs b o1 _ y1)).1
            rw [e] at y2
            rw [Option.some.inj y2]
            exact y3
      have grown : ∀ p ∈ cs, ∃ more : Array Value, s2.heap.get? p.2 = some { cls := .none, data := .fields more } := by
        intro p hp
        obtain ⟨more, y⟩ := un.tbls p.2 #[] (tabs _ ⟨p, hp, rfl⟩)
        exact ⟨_, hok2 p.2 _ y⟩
      refine ⟨rfl, ⟨fun b o e => ?_, fun b o e => ?_⟩, z1, z2⟩
      · by_cases hb : TabIs cs b
        · obtain ⟨p, hp, rfl⟩ := hb
          obtain ⟨more, g⟩ := grown p hp
          rw [empty p hp] at e
          cases e
          exact .inr (.inl ⟨((codes p hp).tab (empty p hp)).isCodeTable, rfl, #[], more, rfl, by rw [Array.empty_append]; exact g⟩)
        · exact .inl (stay b o hb e)
      · by_cases hb : TabIs cs b
        · obtain ⟨p, hp, rfl⟩ := hb
          obtain ⟨more, g⟩ := grown p hp
          exact ⟨_, g⟩
        · exact ⟨o, stay b o hb e⟩
  have vals := vals_ints allInt
  have lens := allInt.length
  cases look : K.lookup a with
  | some o =>
    have e := kin a o look
    rw [at_] at e
    obtain rfl := Option.some.inj e
    refine main (fun b => if TabIs cs b then some (.tbl #[]) else none) (fun b hb => if_pos hb) (fun b => ?_) (.inr ⟨_, us.toArray, _, look, rfl, rfl, rfl, by rw [List.size_toArray, lens]; exact few, by simpa using vals⟩) (fun b u z => ?_) (fun b z => ?_) (fun z => absurd (if_neg aT) z)
    · by_cases hb : TabIs cs b
      · exact .inr (.inl hb)
      · exact .inl (if_neg hb)
    · by_cases hb : TabIs cs b
      · have y := (if_pos hb).symm.trans z
        cases y
        exact isT hb
      · have y := (if_neg hb).symm.trans z
        cases y
    · by_cases hb : TabIs cs b
      · exact .inr hb
      · exact absurd (if_neg hb) z
  | none =>
    refine main (upd (fun b => if TabIs cs b then some (.tbl #[]) else none) a (.frz { cls := .type "list", data := .seq us.toArray } (.lst (ns.map V.int)))) (fun b hb => ?_) (fun b => ?_) (.inl (.inr ⟨_, upd_same⟩)) (fun b y z => ?_) (fun b z => ?_) fun _ => look
    · rw [upd_ne (show b ≠ a from fun z => aT (by rw [← z]; exact hb))]
      exact if_pos hb
    · by_cases eb : b = a
      · rw [eb, upd_same]; exact .inr (.inr ⟨_, _, rfl⟩)
      · rw [upd_ne eb]
        by_cases hb : TabIs cs b
        · exact .inr (.inl hb)
        · exact .inl (if_neg hb)
    · by_cases eb : b = a
      · subst eb
        rw [upd_same] at z
        obtain rfl := Option.some.inj z
        exact ⟨at_, by rw [List.length_map]; exact few, us, _, vals, at_⟩
      · rw [upd_ne eb] at z
        by_cases hb : TabIs cs b
        · have y := (if_pos hb).symm.trans z
          cases y
          exact isT hb
        · have y := (if_neg hb).symm.trans z
          cases y
    · by_cases eb : b = a
      · exact .inl eb
      · by_cases hb : TabIs cs b
        · exact .inr hb
        · exact absurd ((upd_ne eb).trans (if_neg hb)) z
end
/-- the goal that the head leaves, from the law's own promise; names: the defs whose tables are wanted -/
theorem walkGT {l : PySem.W.OpenLaw} {n k : Nat} {q : Program} {loose : List Str} {XP : (Str → Option Value) → Heap → Prop} {YP : World → Heap → Prop} {d : DefRec} {K : Params → PySem.W.Frag} {sp : World → List (Addr × Addr) → Sp} {x : Str} {names : List Str}
    (hn : l.most = some n) (n2 : n ≤ sizeLine) (nodef : d.params.defaults = []) (room : Room k callerA) (recs : (names.all fun y => (recsOf q).any fun e => e.name == y) = true) (hY : ∀ (w : World) (h : Heap), YP w h → (K w.params).In h)
    (F : ∀ (w : World) (mg : Str → Option Value) (fa : Addr) (h : Heap), (K w.params).In h → h.Ns mainGlobals mg → mg d.name = some (.ref fa) →
      ∃ (fd : FuncData) (cs : List (Addr × Addr)), cs.length = names.length ∧ (∀ p ∈ names.zip cs, PySem.W.tabIn (K w.params) p.1 = some p.2) ∧ (∀ p ∈ cs, (K w.params).lookup p.2 = none) ∧ (∀ (s : Shared) (u : Value), BindsTo s fd ⟨[u], []⟩ [(x, u)]) ∧
        ∀ base : Heap, (K w.params).In base → base.Ns mainGlobals mg → (∀ p ∈ cs, TabB base mg p.1 p.2) → FnG l.prog w (K w.params) mg base CX0 k fa fd [x] (sp w cs))
    (pre : ∀ (w : World) (H : Hp) (a : Addr) (cs : List (Addr × Addr)) (ns : List Int), ns.length ≤ n → (∀ p ∈ cs, H p.2 = some (.tbl #[])) → SqL (K w.params) H a (ns.map V.int) → sp w cs [.ref a] H (fun v _ => v = .bl true) fun _ _ _ => False) :
    PySem.W.WalkO q loose XP YP l.row.toRowW d [] (fun f vs => PySem.call f vs) := by
  refine Att.attach_callB hn nodef fun w s0 st mg bm fa o pm cd doc a us ns G Y ho hd hcd hmg hobj allInt size _ nogen => ?_
  have kin := hY w _ Y
  obtain ⟨fd, cs, len, tabs, off, bind, hF⟩ := F w mg fa _ kin G.T.g hmg
  have each : ∀ p ∈ cs, PySem.W.CodeHd st.heap p.1 p.2 ∧ st.heap.get? p.2 = some (PySem.W.tabObj #[]) := by
    intro p hp
    obtain ⟨i, hi, e⟩ := List.getElem_of_mem hp
    have hi2 : i < names.length := by omega
    have m : (names[i], p) ∈ names.zip cs := by
      rw [← e]
      have hz : i < (names.zip cs).length := by rw [List.length_zip]; omega
      have := List.getElem_mem hz
      rwa [List.getElem_zip] at this
    have t := tabs _ m
    have r := List.all_eq_true.mp recs names[i] (List.getElem_mem hi2)
    have s : ((recsOf q).find? fun e => e.name == names[i]).isSome = true := by
      rw [List.find?_isSome]
      obtain ⟨y, y1, y2⟩ := List.any_eq_true.mp r
      exact ⟨y, y1, y2⟩
    obtain ⟨dL, hL⟩ := Option.isSome_iff_exists.mp s
    exact PySem.W.tab_of G.T kin hL t
  exact law_GT kin G.T.g G.T.b G.T.builtins G.T.nolimit nogen (fun p hp => (each p hp).2) off (fun p hp => (each p hp).1) G.T.bmain hobj allInt (Nat.le_trans size n2) room hF bind fun H hH sq => pre w H a cs ns size hH sq
/-! ### tables kept -/
theorem tabs_to {T : List (Addr × Str)} {H H' : Hp} (t : Tabs T H) (k : ∀ b o, H b = some o → (∀ xs, o ≠ .lst xs) → H' b = some o) : Tabs T H' := by
  intro p hp
  obtain ⟨ps, h1, h2, h3⟩ := t p hp
  refine ⟨ps, k _ _ h1 (fun xs z => by cases z), h2, fun pos cv hc => ?_⟩
  obtain ⟨c, e1, e2⟩ := h3 pos cv hc
  exact ⟨c, e1, k _ _ e2 (fun xs z => by unfold CodeO at z; cases z)⟩
theorem tabs_same {T : List (Addr × Str)} {H H' : Hp} (t : Tabs T H) (s : Same H H') : Tabs T H' := tabs_to t fun b o e _ => s b o e
/-- an exception taken knows how many names there are -/
theorem takes_len {X : Cx} {W : WX} (tk : Takes X W) : Takes X (fun cls d σ H => σ.length = X.N.length → W cls d σ H) := fun u s' ⟨a, B, sI, pins, σ, H, cls, d, e, I, nb, up, sky, na, os, ag, w⟩ =>
  tk u s' ⟨a, B, sI, pins, σ, H, cls, d, e, I, nb, up, sky, na, os, ag, w I.len⟩
/-- what the lambda's body lets out -/
theorem lam_takes {X : Cx} {A : Around} {outer : List Env} {s : Shared} {H : Hp} {E : XK} {scope : Scope} {f c' : Addr} : Takes (lamCx X A outer s H E scope f c') (fun cls d _ H' => E cls d H') := takes_of rfl rfl rfl rfl
theorem lam_pass {X : Cx} {A : Around} {outer : List Env} {s : Shared} {H : Hp} {E : XK} {scope : Scope} {f c' : Addr} : Passes (L2.CX X.prog X.w) (lamCx X A outer s H E scope f c') E := passes_call lam_takes fun _ _ _ _ h => h
/-- what a def that may raise lets out -/
theorem def_takes {P : Program} {w : World} {K : PySem.W.Frag} {mg : Str → Option Value} {base : Heap} {N : List Str} {ql : Str} {sc : Scope} {f : Addr} {cv : Value} {A : Around} {out : List Env} {st : Shared} {h : Hp} {E : XK} : Takes (cxOf (L2.CX P w) P w K mg base N ql sc f cv A out st h E) (fun cls d _ H' => E cls d H') := takes_of rfl rfl rfl rfl
/-! ### own == beside a value of another type -/
section
variable {X : Cx}
def rEqOth (K : PySem.W.Frag) (C : Addr) (sp : Sp) : R2 := fun x y H Q => ∃ (a dx : Addr) (fs : List (Str × V)) (T : String), x = .ref a ∧ H a = some (.ins C dx fs) ∧ TyB K H y T ∧ (T = "str" ∨ T = "list" ∨ T = "tuple") ∧ PySem.W.notFirst K C (.type T) = true ∧ sp [x, y] H Q E0
theorem ty_looks {M : Model} {s : Shared} {u : Value} {T : String} (h : s.TypeIs u T) (hT : T = "str" ∨ T = "list" ∨ T = "tuple") (hu : (∃ z t, u = .str z t) ∨ ∃ b, u = .ref b) : PySem.W.Looks M s.heap (typeOf u) (.type T) := by
  rcases hu with ⟨z, t, rfl⟩ | ⟨b, rfl⟩
  · intro A Q E s' k q
    have e : typeOf (.str z t) = pure (.type "str") := rfl
    have e2 : typeOf (.str z t) = pure (.type T) := h
    rw [e2]
    exact wpAny_pure q
  · obtain ⟨o, g, c⟩ := h
    exact fun A Q E s' k q => wpAny_typeOf_ref (k _ _ g) (by rw [c]; exact q)
theorem op_eqOth {C : Addr} {ps : List Str} {sp : Sp} {n : Nat} (c : KO.OwnM X.prog X.w X.K X.mg X.base n C "__eq__" ps sp) (room : Room n X.A) : OpR X (compareOp .Eq) (rEqOth X.K C sp) := by
  obtain ⟨g, fd, hs, hf, F, bind⟩ := c.ex
  intro pins st σ h x y v u Z inv rx ry pre
  obtain ⟨a, dx, fs, T, rfl, ha, ty, hT, nf, z⟩ := pre
  obtain rfl : v = Value.ref a := rx
  obtain ⟨od, J⟩ := KO.inst_of inv ha
  obtain ⟨m, hF⟩ := inv.fr
  have hu : (∃ z t, u = .str z t) ∨ ∃ b, u = .ref b := by
    cases ty with
    | str x => obtain ⟨t, rfl⟩ := (show ∃ t, u = Value.str x t from ry); exact .inl ⟨_, _, rfl⟩
    | @lst b => exact .inr ⟨b, ry⟩
    | @tup b => exact .inr ⟨b, ry⟩
    | non => exact absurd hT (by decide)
    | bl => exact absurd hT (by decide)
    | int => exact absurd hT (by decide)
    | byt => exact absurd hT (by decide)
    | dK => exact absurd hT (by decide)
  have lk := ty_looks (M := model X.prog X.w) (ty.is inv ry) hT hu
  rw [show compareOp .Eq (.ref a) u = richCompare .Eq (.ref a) u from rfl]
  refine PySem.W.cmp_K (op := .Eq) (tb := .type T) room.units0 hF inv.ok.mod.kin J lk nf hs hf ?_
  refine wpAny_mono (KO.run0 (E' := X.xe) (xs := [.ref a, y]) F room inv.env0 bind inv (.cons rfl (.cons ry .nil)) z) (fun w s2 r => ?_) fun _ _ z => z
  obtain ⟨z', h2, inv2, rz, qz⟩ := r
  exact SlX.cmpback rz ⟨z', h2, inv2, rz, qz⟩
end
end KL

/-! KC: own objects called, shown by repr, compared with data of any type; classes made with defaults. -/
namespace KC
open PySem PySem.Spec PyProof.Rows L2 KB KG KO
theorem cx_KX {CX : CXT} {P : Program} {w : World} {K : PySem.W.Frag} {mg : Str → Option Value} {base : Heap} {N : List Str} {qual : Str} {sc : Scope} {f : Addr} {cd : Value} {A : Around} {outer : List Env} {s : Shared} {H : Hp} {E : XK} : (cxOf CX P w K mg base N qual sc f cd A outer s H E).K = K := rfl
/-! ### b(e, ..), b an own object -/
section
variable {M : Model} {A : Around} {E : Value → Shared → Prop} {s : Shared} {C dx x : Addr} {pos : Pos} {Q : Value → Shared → Prop}
theorem callWith_own {args : List (Bool × Sem Value)} {kws : List (Option Str × Sem Value)} (plain : (args.any (·.1) || kws.any (·.1.isNone)) = false)
    (h : wpAny M A (evalArgs (.ref x) true args kws) (fun a t => (∃ od, PySem.W.InstAt t.heap x (PySem.W.instObj C dx) C od) ∧ wpAny M A (call (.ref x) a.pos a.kw) Q E t) E s) : wpAny M A (callWith pos (.ref x) [] args kws) Q E s := by
  unfold callWith
  refine wpAny_bind (wpAny_holding (wpAny_mono h (fun a t g => wpAny_bind (wpAny_standAt ?_)) fun _ _ y => y))
  obtain ⟨od, J⟩ := g.1
  have L := PySem.W.kco_keeper (M := M) J rfl
  simp only [plain]
  refine wpAny_bind (L.here ?_)
  have tail : ∀ {m : Sem Value}, wpAny M A m Q E t → wpAny M A (m >>= fun r => holding [r] point >>= fun _ => pure r) Q E t :=
    fun hm => wpAny_bind (wpAny_mono hm (fun r u hr => wpAny_bind (wpAny_holding (wpAny_point (wpAny_pure hr)))) fun _ _ y => y)
  exact tail (wpAny_operateT g.2)
end
section
variable {X : Cx}
structure OwnC (P : Program) (w : World) (K : PySem.W.Frag) (mg : Str → Option Value) (base : Heap) (CX : CXT) (k : Nat) (C : Addr) (ps : List Str) (sp : Sp) : Prop where
  ex : ∃ (g : Addr) (fd : FuncData), PySem.W.findIn K (.ref C) "__call__" = some (some (.ref g)) ∧ PySem.W.isFn K (.ref g) = true ∧ PySem.W.fnIn K g = true ∧ FnOk P w K mg base CX k g fd ps sp ∧ Binds K fd ps []
def tCallO (C : Addr) (sp : Sp) (E : XK) (tf : TE) (t : TA) : TE := fun σ H Q => tf σ H fun x H1 => ∃ (a dx : Addr) (fs : List (Str × V)), x = .ref a ∧ H1 a = some (.ins C dx fs) ∧ t σ H1 fun vs H2 => H2 a = some (.ins C dx fs) ∧ sp (x :: vs) H2 Q E
theorem pe_callO {CX : CXT} {k : Nat} {C : Addr} {x : Str} {ps : List Str} {sp : Sp} {E : XK} {e : Expr} {es : List Expr} {p pos : Pos} {tf : TE} {t : TA} (c : OwnC X.prog X.w X.K X.mg X.base CX k C ps sp) (room : Room k X.A) (pass : Passes CX X E) (hf : PE X (.Name x p) tf) (ha : PA X (e :: es) t)
    (d2 : starEach (e :: es) X.env = (false, eval e X.env) :: starEach es X.env := by rfl) (d3 : (backTo pos (starEach es X.env)).any (·.1) = false := by rfl) :
    PE X (.Call (.Name x p) (e :: es) [] pos) (tCallO C sp E tf t) := by
  obtain ⟨g, fd, hs, hfn, hfi, F, bind⟩ := c.ex
  refine ⟨fun pins st σ h Z inv pre => wpAny_Call_Name_kw (thn (hf.run pins st σ h _ inv pre) fun u s1 r => ?_)⟩
  obtain ⟨v, h1, inv1, rv, a, dx, fs, rfl, ea, z⟩ := r
  obtain rfl : u = Value.ref a := rv
  refine callWith_own (C := C) (dx := dx) (by rw [d2]; show ((false || (backTo pos (starEach es X.env)).any (·.1)) || false) = false; rw [d3]; rfl) ?_
  have main := thn (Q' := fun (ws : List Value) (s2 : Shared) => (∃ od, PySem.W.InstAt s2.heap a (PySem.W.instObj C dx) C od) ∧ wpAny (model X.prog X.w) X.A (call (.ref a) ws) (EP X pins σ Z) X.xe s2) (ha.run pos pins s1 σ h1 _ inv1 z) fun ws s2 r => ?_
  · rw [d2] at main ⊢
    exact Calls.evalArgs_plain main
  · obtain ⟨xs, h2, inv2, rel, ea2, z2⟩ := r
    obtain ⟨od, J⟩ := inst_of inv2 ea2
    refine ⟨⟨_, J⟩, ?_⟩
    have rel2 : Vals (V.ref a :: xs) (Value.ref a :: ws) := .cons rfl rel
    have size : ((Value.ref a :: ws) ++ []).length = ps.length := by rw [List.append_nil, ← rel2.length]; exact F.len _ _ _ _ z2
    have bd := bind s2 (Value.ref a :: ws) inv2.kIn size
    rw [List.append_nil] at bd
    refine wpAny_call (codeAny_mono (PySem.W.kco_code inv2.kIn J rfl hs hfn hfi (F.run X.A X.stack s2 h2 ⟨Value.ref a :: ws, []⟩ _ _ Z E room inv2.env0 bd rel2 z2)) fun res s3 y => ?_)
    match res, y with
    | .error e, y => exact pass pins σ h2 s2 e s3 inv2 y
    | .ok (.ret u), y => exact inv2.after y
    | .ok .next, y => exact y.elim
    | .ok .brk, y => exact y.elim
    | .ok .cont, y => exact y.elim
/-! ### repr(o) by own __repr__ -/
def rReprOwn (C : Addr) (sp : Sp) : List V → Hp → VK → Prop := fun xs H Q => ∃ a dx fs, xs = [.ref a] ∧ H a = some (.ins C dx fs) ∧ sp [.ref a] H (fun v H' => ∃ t, v = .str t ∧ Q (.str t) H') E0
theorem call_reprO {C : Addr} {ps : List Str} {sp : Sp} {n : Nat} (c : OwnM X.prog X.w X.K X.mg X.base n C "__repr__" ps sp) (room : Room (n + 1) X.A) : CallR X (.builtin "repr") (rReprOwn C sp) := by
  obtain ⟨g, fd, hs, hf, F, bind⟩ := c.ex
  intro pins st σ h xs us Z inv rel pre
  obtain ⟨a, dx, fs, rfl, ha, z⟩ := pre
  obtain ⟨u, rfl, ru⟩ := vals_one rel
  obtain rfl : u = Value.ref a := ru
  obtain ⟨od, J⟩ := inst_of inv ha
  obtain ⟨m, hF⟩ := inv.fr
  have un := room.un
  refine PySem.W.repr_K (show X.A.units + 1 < cLine by omega) hF inv.ok.mod.kin J hs hf ?_
  refine wpAny_mono (run0 (E' := X.xe) (xs := [.ref a]) F room.in1 inv.env0.in1 bind inv (.cons rfl .nil) z) (fun w s2 r => ?_) fun _ _ z => z
  obtain ⟨v', h2, inv2, rz, t, rfl, q2⟩ := r
  obtain ⟨tk, rfl⟩ : ∃ tk, w = Value.str t tk := rz
  exact ⟨.str t, h2, inv2, ⟨tk, rfl⟩, q2⟩
/-! ### own == beside data -/
def rEqAny (K : PySem.W.Frag) (C : Addr) (sp : Sp) : R2 := fun x y H Q => ∃ (a dx : Addr) (fs : List (Str × V)) (T : String), x = .ref a ∧ H a = some (.ins C dx fs) ∧ TyB K H y T ∧ T ≠ "bytes" ∧ PySem.W.notFirst K C (.type T) = true ∧ sp [x, y] H Q E0
theorem op_eqAny {C : Addr} {ps : List Str} {sp : Sp} {n : Nat} (c : OwnM X.prog X.w X.K X.mg X.base n C "__eq__" ps sp) (room : Room n X.A) : OpR X (compareOp .Eq) (rEqAny X.K C sp) := by
  obtain ⟨g, fd, hs, hf, F, bind⟩ := c.ex
  intro pins st σ h x y v u Z inv rx ry pre
  obtain ⟨a, dx, fs, T, rfl, ha, ty, hT, nf, z⟩ := pre
  obtain rfl : v = Value.ref a := rx
  obtain ⟨od, J⟩ := inst_of inv ha
  obtain ⟨m, hF⟩ := inv.fr
  have lk : PySem.W.Looks (model X.prog X.w) st.heap (typeOf u) (.type T) := by
    have ti := ty.is inv ry
    have flat : typeOf u = pure (.type T) → PySem.W.Looks (model X.prog X.w) st.heap (typeOf u) (.type T) := fun e A Q E s' k q => by rw [e]; exact wpAny_pure q
    have far : ∀ b, u = .ref b → PySem.W.Looks (model X.prog X.w) st.heap (typeOf u) (.type T) := by
      intro b e
      subst e
      obtain ⟨o, g1, g2⟩ := ti
      exact fun A Q E s' k q => wpAny_typeOf_ref (k _ _ g1) (by rw [g2]; exact q)
    cases ty with
    | non => cases (show u = Value.none from ry); exact flat ti
    | bl b => cases (show u = Value.bool b from ry); exact flat ti
    | int i => obtain ⟨t, rfl⟩ := (show ∃ t, u = Value.int i t from ry); exact flat ti
    | str x => obtain ⟨t, rfl⟩ := (show ∃ t, u = Value.str x t from ry); exact flat ti
    | byt b => exact absurd rfl hT
    | @lst b => exact far b ry
    | @tup b => exact far b ry
    | @dK b => exact far b ry
  rw [show compareOp .Eq (.ref a) u = richCompare .Eq (.ref a) u from rfl]
  refine PySem.W.cmp_K (op := .Eq) (tb := .type T) room.units0 hF inv.ok.mod.kin J lk nf hs hf ?_
  refine wpAny_mono (run0 (E' := X.xe) (xs := [.ref a, y]) F room inv.env0 bind inv (.cons rfl (.cons ry .nil)) z) (fun w s2 r => ?_) fun _ _ z => z
  obtain ⟨z', h2, inv2, rz, qz⟩ := r
  exact SlX.cmpback rz ⟨z', h2, inv2, rz, qz⟩
/-! ### C(e, ..) with defaults -/
structure CalleeID (P : Program) (w : World) (K : PySem.W.Frag) (mg : Str → Option Value) (base : Heap) (CX : CXT) (k : Nat) (C : Addr) (x : Str) (ps : List Str) (sp : Sp) (dvs : List V) : Prop where
  ex : ∃ (f : Addr) (fd : FuncData) (ds : List Value), FnOk P w K mg base CX k f fd ps sp ∧ Mk K C f ∧ mg x = some (.ref C) ∧ Binds K fd ps ds ∧ Vals dvs ds
theorem pe_makeD {CX : CXT} {k : Nat} {C : Addr} {x : Str} {ps : List Str} {sp : Sp} {dvs : List V} {E : XK} {e : Expr} {es : List Expr} {p pos : Pos} {t : TA} (c : CalleeID X.prog X.w X.K X.mg X.base CX k C x ps sp dvs) (room : Room (k + 1) X.A) (gl : Gl X x) (pass : Passes CX X E) (ha : PA X (e :: es) t)
    (d1 : (x == ("__debug__" : Str)) = false := by decide) (d2 : starEach (e :: es) X.env = (false, eval e X.env) :: starEach es X.env := by rfl) (d3 : (backTo pos (starEach es X.env)).any (·.1) = false := by rfl) :
    PE X (.Call (.Name x p) (e :: es) [] pos) (tMake C sp dvs E t) := by
  obtain ⟨f, fd, ds, F, M, hm, hb, hd⟩ := c.ex
  exact pe_make M F room gl hm hb hd pass ha d1 d2 d3
/-! ### f(k = v, ..) -/
theorem pe_callK0 {CX : CXT} {k : Nat} {x : Str} {ps ks : List Str} {sp : Sp} {gV : List V → List V → List V} {E : XK} {kws : List Keyword} {p pos : Pos} {tk : TA} (c : CalleeKw X.prog X.w X.K X.mg X.base CX k x ps sp 0 ks gV) (room : Room k X.A) (gl : Gl X x) (pass : Passes CX X E) (hkw : PK X kws tk)
    (d1 : (backToKw pos (keywordEach kws X.env)).all (·.1.isSome) = true := by rfl) (d2 : (backToKw pos (keywordEach kws X.env)).filterMap (·.1) = ks := by rfl) (d3 : (x == ("__debug__" : Str)) = false := by decide)
    (d4 : ((backTo pos (starEach [] X.env)).any (·.1) || (backToKw pos (keywordEach kws X.env)).any (·.1.isNone)) = false := by rfl) :
    PE X (.Call (.Name x p) [] kws pos) (fun σ H Q => tk σ H fun zs H2 => zs.length = ks.length ∧ sp (gV [] zs) H2 Q E) := by
  obtain ⟨f, fd, g, F, hm, hk, hb⟩ := c.ex
  refine ⟨fun pins st σ h Z inv pre => wpAny_Call_Name_kw (ld_glob inv gl hm ?_ d3)⟩
  refine PySem.W.callWith_KW0 (first := []) (h₀ := X.base) inv.ok.mod.kin hk d1 (thn (hkw.run pos pins st σ h _ inv pre) fun ws s2 r => ?_) d4
  obtain ⟨zs, h2, inv2, rel, l2, z2⟩ := r
  refine ⟨inv2.kIn, ?_⟩
  rw [d2]
  exact run_fnN (us := []) (vs := []) F room hb pass inv2 .nil rel rfl l2 z2
end
theorem r_callO {σ : L2.St} {H : Hp} {Q : VK} {C : Addr} {sp : Sp} {E : XK} {tf : TE} {t : TA} (q : tf σ H fun x H1 => ∃ (a dx : Addr) (fs : List (Str × V)), x = .ref a ∧ H1 a = some (.ins C dx fs) ∧ t σ H1 fun vs H2 => H2 a = some (.ins C dx fs) ∧ sp (x :: vs) H2 Q E) : tCallO C sp E tf t σ H Q := q
theorem r_chain {σ : L2.St} {H : Hp} {Q : VK} {r r' : R2} {ta tb tc : TE} (q : ta σ H fun x H1 => tb σ H1 fun y H2 => r x y H2 fun z H3 => ∃ k, z = .bl k ∧ if k = true then tc σ H3 fun w' H4 => r' y w' H4 Q else Q (.bl false) H3) : tChain r r' ta tb tc σ H Q := q
end KC
/-! ### own object op number -/
namespace KC
open PySem PySem.Spec PyProof.Rows L2 KB KG KO
section
variable {X : Cx}
structure OwnB (P : Program) (w : World) (K : PySem.W.Frag) (mg : Str → Option Value) (base : Heap) (CX : CXT) (k : Nat) (C : Addr) (op : Operator) (ps : List Str) (sp : Sp) : Prop where
  ex : ∃ (g : Addr) (fd : FuncData) (rc fo ro : Option Value), PySem.W.selfFirst K C = true ∧ PySem.W.findIn K (.ref C) (PySem.dunder op.info.2) = some (some (.ref g)) ∧ PySem.W.isFn K (.ref g) = true ∧ PySem.W.findIn K (.ref C) (dunderR op.info.2) = some rc ∧ (rc = none ∨ ∃ g : Addr, rc = some (.ref g)) ∧
    PySem.W.findIn K (.type "int") (PySem.dunder op.info.2) = some fo ∧ PySem.W.findIn K (.type "int") (dunderR op.info.2) = some ro ∧ PySem.W.subIn K (.type "int") (.ref C) = some false ∧ FnOk P w K mg base CX k g fd ps sp ∧ Binds K fd ps []
def rBinO (C : Addr) (sp : Sp) (E : XK) : R2 := fun x y H Q => ∃ (a dx : Addr) (fs : List (Str × V)) (i : Int), x = .ref a ∧ H a = some (.ins C dx fs) ∧ y = .int i ∧ sp [x, y] H Q E
theorem op_bin {CX : CXT} {E : XK} {C : Addr} {op : Operator} {ps : List Str} {sp : Sp} {n : Nat} (c : OwnB X.prog X.w X.K X.mg X.base CX n C op ps sp) (room : Room n X.A) (pass : Passes CX X E) : OpR X (binaryOp op) (rBinO C sp E) := by
  obtain ⟨g, fd, rc, fo, ro, c1, c2, c3, c4, c5, c6, c7, c8, F, bind⟩ := c.ex
  intro pins st σ h x y v u Z inv rx ry pre
  obtain ⟨a, dx, fs, i, rfl, ha, rfl, z⟩ := pre
  obtain rfl : v = Value.ref a := rx
  obtain ⟨tk, rfl⟩ := (show ∃ t, u = Value.int i t from ry)
  obtain ⟨od, J⟩ := inst_of inv ha
  obtain ⟨m, hF⟩ := inv.fr
  refine PySem.W.ksp_binT (T := "int") hF inv.ok.mod.kin J rfl c1 c2 c3 c4 c5 c6 c7 c8 ?_
  refine wpAny_mono (run_fn (us := [.ref a, .int i tk]) (vs := [.ref a, .int i]) F room bind .nil pass inv (.cons rfl (.cons ⟨tk, rfl⟩ .nil)) z) (fun w s2 r => ?_) fun _ _ z => z
  obtain ⟨z', h2, inv2, rz, qz⟩ := r
  exact SlX.cmpback rz ⟨z', h2, inv2, rz, qz⟩
end
end KC

/-! KBL: blends: the mathematics (natural numbers, bit by bit). -/
namespace KBL
/-- the word moved by s -/
def shN (w v : Nat) (s : Int) : Nat := if s < 0 then v / 2 ^ (0 - s).toNat else v * 2 ^ s.toNat % 2 ^ w
theorem bit_sh {w v : Nat} {s : Int} (hv : v < 2 ^ w) (p : Nat) : (shN w v s).testBit p = (decide (p < w) && (decide (s ≤ (p : Int)) && v.testBit ((p : Int) - s).toNat)) := by
  unfold shN
  by_cases h : s < 0
  · rw [if_pos h, Nat.testBit_div_two_pow, show p + (0 - s).toNat = ((p : Int) - s).toNat by omega, decide_eq_true (show s ≤ (p : Int) by omega), Bool.true_and]
    by_cases hp : p < w
    · rw [decide_eq_true hp, Bool.true_and]
    · rw [decide_eq_false hp, Bool.false_and]
      exact Nat.testBit_lt_two_pow (Nat.lt_of_lt_of_le hv (Nat.pow_le_pow_right (by decide) (by omega)))
  · rw [if_neg h, Nat.testBit_mod_two_pow, Nat.testBit_mul_two_pow]
    by_cases hs : s ≤ (p : Int)
    · rw [decide_eq_true (show s.toNat ≤ p by omega), decide_eq_true hs, show p - s.toNat = ((p : Int) - s).toNat by omega]
    · rw [decide_eq_false (show ¬ s.toNat ≤ p by omega), decide_eq_false hs]
      simp
theorem sh_lt {w v : Nat} {s : Int} (hv : v < 2 ^ w) : shN w v s < 2 ^ w := by
  unfold shN
  split
  · exact Nat.lt_of_le_of_lt (Nat.div_le_self _ _) hv
  · exact Nat.mod_lt _ (Nat.two_pow_pos w)
def onesN (w : Nat) : Nat := 2 ^ w - 1
theorem ones_lt (w : Nat) : onesN w < 2 ^ w := by
  have := Nat.two_pow_pos w
  unfold onesN
  omega
def keepN (w : Nat) (s : Int) (k : Nat) : Nat := shN w (onesN w) s &&& k
def shiftN (w : Nat) (s : Int) (k : Nat) : Int := if keepN w s k = 0 then 0 else s
/-- the place p has a source -/
def src (w : Nat) (s : Int) (k p : Nat) : Bool := decide (p < w) && (decide (s ≤ (p : Int)) && (decide ((p : Int) - s < w) && k.testBit p))
theorem bit_keep (w : Nat) (s : Int) (k p : Nat) : (keepN w s k).testBit p = src w s k p := by
  unfold keepN src
  rw [Nat.testBit_and, bit_sh (ones_lt w)]
  unfold onesN
  rw [Nat.testBit_two_pow_sub_one]
  by_cases h : s ≤ (p : Int)
  · rw [decide_eq_true h, show decide (((p : Int) - s).toNat < w) = decide ((p : Int) - s < w) from by
      by_cases q : (p : Int) - s < w
      · rw [decide_eq_true q, decide_eq_true (by omega)]
      · rw [decide_eq_false q, decide_eq_false (by omega)]]
    simp only [Bool.true_and, Bool.and_assoc]
  · rw [decide_eq_false h]
    simp
theorem keep_lt (w : Nat) (s : Int) (k : Nat) : keepN w s k < 2 ^ w := by
  unfold keepN
  rw [Nat.and_comm]
  exact Nat.and_lt_two_pow _ (sh_lt (ones_lt w))
/-- what a blend makes of a word -/
def ap (w : Nat) (s : Int) (k f v : Nat) : Nat := f ^^^ (keepN w s k &&& shN w v s)
theorem ap_lt {w : Nat} {s : Int} {k f v : Nat} (hf : f < 2 ^ w) (hv : v < 2 ^ w) : ap w s k f v < 2 ^ w := Nat.xor_lt_two_pow hf (Nat.and_lt_two_pow _ (sh_lt hv))
theorem bit_ap {w : Nat} {s : Int} {k f v : Nat} (hv : v < 2 ^ w) (p : Nat) : (ap w s k f v).testBit p = (f.testBit p ^^ (src w s k p && v.testBit ((p : Int) - s).toNat)) := by
  unfold ap
  rw [Nat.testBit_xor, Nat.testBit_and, bit_keep, bit_sh hv]
  unfold src
  by_cases h1 : p < w <;> by_cases h2 : s ≤ (p : Int) <;> by_cases h3 : (p : Int) - s < w <;> simp [h1, h2, h3]
/-- the same by the numbers that are kept -/
theorem ap_norm (w : Nat) (s : Int) (k f v : Nat) : f ^^^ (keepN w s k &&& shN w v (shiftN w s k)) = ap w s k f v := by
  unfold ap shiftN
  by_cases h : keepN w s k = 0
  · rw [if_pos h, h, Nat.zero_and, Nat.zero_and]
  · rw [if_neg h]
theorem ap_zero (w : Nat) (s : Int) (k f : Nat) : ap w s k f 0 = f := by
  refine Nat.eq_of_testBit_eq fun p => ?_
  rw [bit_ap (Nat.two_pow_pos w), Nat.zero_testBit, Bool.and_false, Bool.xor_false]
theorem two_lt {j w : Nat} (h : j < w) : 2 ^ j < 2 ^ w := Nat.pow_lt_pow_right (by decide) h
theorem bit_two {w : Nat} {s : Int} {k f j : Nat} (h : j < w) (p : Nat) : (ap w s k f (2 ^ j)).testBit p = (f.testBit p ^^ (src w s k p && decide ((p : Int) - s = j))) := by
  rw [bit_ap (two_lt h), Nat.testBit_two_pow]
  unfold src
  by_cases h2 : s ≤ (p : Int)
  · have e : decide (j = ((p : Int) - s).toNat) = decide ((p : Int) - s = j) := by
      by_cases q : (p : Int) - s = j
      · rw [decide_eq_true q, decide_eq_true (by omega)]
      · rw [decide_eq_false q, decide_eq_false (by omega)]
    rw [e]
  · simp [h2]
theorem src_of {w : Nat} {s : Int} {k p : Nat} (h : src w s k p = true) : p < w ∧ s ≤ (p : Int) ∧ (p : Int) - s < w := by
  unfold src at h
  simp only [Bool.and_eq_true, decide_eq_true_eq] at h
  exact ⟨h.1, h.2.1, h.2.2.1⟩
/-- where two agree at the single bits below n, a source of the one is that of the other -/
theorem src_same {w n : Nat} {s s' : Int} {k k' f f' : Nat} (hf : f = f') (h : ∀ j, j < n → ap w s k f (2 ^ j) = ap w s' k' f' (2 ^ j)) (hn : n ≤ w) {p : Nat} (hp : src w s k p = true) (hj : (p : Int) - s < n) : src w s' k' p = true ∧ (p : Int) - s' = (p : Int) - s := by
  obtain ⟨h1, h2, h3⟩ := src_of hp
  obtain ⟨j, ej⟩ : ∃ j : Nat, (p : Int) - s = j := ⟨((p : Int) - s).toNat, by omega⟩
  have hjn : j < n := by omega
  have e := congrArg (fun x => Nat.testBit x p) (h j hjn)
  simp only [bit_two (show j < w by omega), hp, hf] at e
  rw [decide_eq_true ej] at e
  cases hq : src w s' k' p with
  | false => rw [hq] at e; simp at e
  | true =>
    rw [hq] at e
    by_cases z : (p : Int) - s' = j
    · exact ⟨rfl, by omega⟩
    · rw [decide_eq_false z] at e
      simp at e
theorem bits_below {v n i : Nat} (hv : v < 2 ^ n) (h : v.testBit i = true) : i < n := by
  rcases Nat.lt_or_ge i n with z | z
  · exact z
  · rw [Nat.testBit_lt_two_pow (Nat.lt_of_lt_of_le hv (Nat.pow_le_pow_right (by decide) z))] at h
    cases h
/-- .. then they agree at all words below 2 ^ n -/
theorem agree {w n : Nat} {s s' : Int} {k k' f f' : Nat} (hf : f = f') (h : ∀ j, j < n → ap w s k f (2 ^ j) = ap w s' k' f' (2 ^ j)) (hn : n ≤ w) {v : Nat} (hv : v < 2 ^ n) : ap w s k f v = ap w s' k' f' v := by
  have hvw : v < 2 ^ w := Nat.lt_of_lt_of_le hv (Nat.pow_le_pow_right (by decide) hn)
  have one : ∀ {s s' : Int} {k k' f f' : Nat}, f = f' → (∀ j, j < n → ap w s k f (2 ^ j) = ap w s' k' f' (2 ^ j)) → ∀ p, (src w s k p && v.testBit ((p : Int) - s).toNat) = true → (src w s' k' p && v.testBit ((p : Int) - s').toNat) = true := by
    intro s s' k k' f f' hf h p hp
    obtain ⟨h1, h2⟩ := Bool.and_eq_true_iff.mp hp
    have h3 := bits_below hv h2
    obtain ⟨g1, g2⟩ := src_same hf h hn h1 (by have := (src_of h1).2.1; omega)
    rw [g1, g2, h2]
    rfl
  refine Nat.eq_of_testBit_eq fun p => ?_
  rw [bit_ap hvw, bit_ap hvw, hf]
  congr 1
  cases e : (src w s k p && v.testBit ((p : Int) - s).toNat) with
  | true => exact (one hf h p e).symm
  | false =>
    cases e' : (src w s' k' p && v.testBit ((p : Int) - s').toNat) with
    | false => rfl
    | true =>
      have := one hf.symm (fun j hj => (h j hj).symm) p e'
      rw [e] at this
      cases this
/-- equal at 0 and at the single bits: the numbers are equal -/
theorem norm_eq {w : Nat} {s s' : Int} {k k' f f' : Nat} (hf : f = f') (h : ∀ j, j < w → ap w s k f (2 ^ j) = ap w s' k' f' (2 ^ j)) : keepN w s k = keepN w s' k' ∧ shiftN w s k = shiftN w s' k' := by
  have up : ∀ {p}, src w s k p = true → src w s' k' p = true ∧ (p : Int) - s' = (p : Int) - s := fun {p} hp => src_same hf h (Nat.le_refl _) hp (src_of hp).2.2
  have dn : ∀ {p}, src w s' k' p = true → src w s k p = true ∧ (p : Int) - s = (p : Int) - s' := fun {p} hp => src_same hf.symm (fun j hj => (h j hj).symm) (Nat.le_refl _) hp (src_of hp).2.2
  have ek : keepN w s k = keepN w s' k' := by
    refine Nat.eq_of_testBit_eq fun p => ?_
    rw [bit_keep, bit_keep]
    cases e : src w s k p with
    | true => exact (up e).1.symm
    | false =>
      cases e' : src w s' k' p with
      | false => rfl
      | true => have := (dn e').1; rw [e] at this; cases this
  refine ⟨ek, ?_⟩
  unfold shiftN
  rw [← ek]
  by_cases z : keepN w s k = 0
  · rw [if_pos z, if_pos z]
  · rw [if_neg z, if_neg z]
    have : ∃ p, (keepN w s k).testBit p = true := by
      rcases Classical.em (∃ p, (keepN w s k).testBit p = true) with g | g
      · exact g
      · refine absurd (Nat.eq_of_testBit_eq fun p => ?_) z
        rw [Nat.zero_testBit]
        cases e : (keepN w s k).testBit p with
        | false => rfl
        | true => exact absurd ⟨p, e⟩ g
    obtain ⟨p, hp⟩ := this
    rw [bit_keep] at hp
    have := (up hp).2
    omega
theorem norm_ap {w : Nat} {s s' : Int} {k k' f f' : Nat} (hk : keepN w s k = keepN w s' k') (hs : shiftN w s k = shiftN w s' k') (hf : f = f') (v : Nat) : ap w s k f v = ap w s' k' f' v := by
  rw [← ap_norm w s k f v, ← ap_norm w s' k' f' v, hk, hs, hf]
/-! ### where two part -/
def parts (F G : Nat → Nat) (v : Nat) : Bool := decide (F v ≠ G v)
def bits (w : Nat) : List Nat := (List.range w).map (2 ^ ·)
/-- the least word of 0 and the single bits at which F and G part -/
def parting (w : Nat) (F G : Nat → Nat) : Option Nat := (0 :: bits w).find? (parts F G)
theorem parting_none {w : Nat} {F G : Nat → Nat} : parting w F G = none ↔ F 0 = G 0 ∧ ∀ j, j < w → F (2 ^ j) = G (2 ^ j) := by
  unfold parting bits parts
  rw [List.find?_eq_none]
  constructor
  · intro h
    refine ⟨?_, fun j hj => ?_⟩
    · have := h 0 (List.mem_cons_self ..)
      simpa using this
    · have := h (2 ^ j) (List.mem_cons_of_mem _ (List.mem_map.mpr ⟨j, List.mem_range.mpr hj, rfl⟩))
      simpa using this
  · rintro ⟨h0, h⟩ x hx
    rcases List.mem_cons.mp hx with rfl | hx
    · simp [h0]
    · obtain ⟨j, hj, rfl⟩ := List.mem_map.mp hx
      simp [h j (List.mem_range.mp hj)]
theorem find_range {q : Nat → Bool} : ∀ (n : Nat) (m : Nat), m < n → q m = true → (∀ i, i < m → q i = false) → (List.range n).find? q = some m := by
  intro n m hm h1 h2
  induction n with
  | zero => omega
  | succ n ih =>
    rw [List.range_succ, List.find?_append]
    by_cases e : m < n
    · rw [ih e]
      rfl
    · have e' : m = n := by omega
      subst e'
      have no : (List.range m).find? q = none := by
        rw [List.find?_eq_none]
        intro x hx
        rw [h2 x (List.mem_range.mp hx)]
        decide
      rw [no]
      simp [List.find?, h1]
theorem parting_some {w : Nat} {F G : Nat → Nat} {d : Nat} (h : parting w F G = some d) : F d ≠ G d ∧ (d = 0 ∨ ∃ j, j < w ∧ d = 2 ^ j ∧ F 0 = G 0 ∧ ∀ i, i < j → F (2 ^ i) = G (2 ^ i)) := by
  have hp : parts F G d = true := List.find?_some h
  refine ⟨by simpa [parts] using hp, ?_⟩
  unfold parting at h
  rw [List.find?_cons] at h
  cases e : parts F G 0 with
  | true => rw [e] at h; exact .inl (Option.some.inj h).symm
  | false =>
    rw [e] at h
    have h0 : F 0 = G 0 := by simpa [parts] using e
    have h' : (bits w).find? (parts F G) = some d := h
    unfold bits at h'
    rw [List.find?_map] at h'
    cases e2 : (List.range w).find? (parts F G ∘ fun x => 2 ^ x) with
    | none => rw [e2] at h'; cases h'
    | some j =>
      rw [e2] at h'
      have hd : 2 ^ j = d := Option.some.inj h'
      obtain ⟨as, bs, e3, e4⟩ := List.find?_eq_some_iff_append.mp e2 |>.2
      refine .inr ⟨j, List.mem_range.mp (List.mem_of_find?_eq_some e2), hd.symm, h0, fun i hi => ?_⟩
      have : i ∈ as := by
        have hl : as.length = j := by
          have := congrArg (fun l => l[as.length]?) e3
          simp at this
          have h5 : as.length < w := by
            have := congrArg List.length e3
            simp at this
            omega
          simp [h5] at this
          exact this
        have hi2 : i < as.length := by omega
        have q := congrArg (fun l => l[i]?) e3
        have hiw : i < w := by
          have := congrArg List.length e3
          simp at this
          omega
        rw [show (as ++ j :: bs)[i]? = as[i]? from List.getElem?_append_left hi2, List.getElem?_range hiw] at q
        exact List.mem_of_getElem? q.symm
      have := e4 i this
      simpa [parts] using this
/-- two blends: all words below the parting word agree -/
theorem below {w : Nat} {s s' : Int} {k k' f f' d v : Nat} (h : parting w (ap w s k f) (ap w s' k' f') = some d) (hv : v < d) : ap w s k f v = ap w s' k' f' v := by
  rcases (parting_some h).2 with rfl | ⟨j, hj, rfl, h0, h1⟩
  · omega
  · rw [ap_zero, ap_zero] at h0
    exact agree h0 h1 (Nat.le_of_lt hj) hv
/-- found among all words -/
theorem parting_all {w : Nat} {s s' : Int} {k k' f f' : Nat} : (List.range (2 ^ w)).find? (parts (ap w s k f) (ap w s' k' f')) = parting w (ap w s k f) (ap w s' k' f') := by
  cases e : parting w (ap w s k f) (ap w s' k' f') with
  | none =>
    obtain ⟨h0, h1⟩ := parting_none.mp e
    rw [ap_zero, ap_zero] at h0
    rw [List.find?_eq_none]
    intro x hx
    simp [parts, agree h0 h1 (Nat.le_refl w) (List.mem_range.mp hx)]
  | some d =>
    have hd := parting_some e
    have dl : d < 2 ^ w := by
      rcases hd.2 with rfl | ⟨j, hj, rfl, _⟩
      · exact Nat.two_pow_pos w
      · exact two_lt hj
    refine find_range _ d dl (by simpa [parts] using hd.1) fun i hi => ?_
    simp [parts, below e hi]
/-- the numbers are equal just where there is no such word -/
theorem same_iff {w : Nat} {s s' : Int} {k k' f f' : Nat} : parting w (ap w s k f) (ap w s' k' f') = none ↔ (shiftN w s k = shiftN w s' k' ∧ keepN w s k = keepN w s' k' ∧ f = f') := by
  rw [parting_none, ap_zero, ap_zero]
  constructor
  · rintro ⟨h0, h1⟩
    obtain ⟨g1, g2⟩ := norm_eq h0 h1
    exact ⟨g2, g1, h0⟩
  · rintro ⟨h1, h2, h3⟩
    exact ⟨h3, fun j _ => norm_ap h2 h1 h3 _⟩
end KBL
/-! ### numbers of the model -/
namespace KBL
open PySem
theorem bAnd (a b : Nat) : Builtin.bitAnd (a : Int) (b : Int) = ((a &&& b : Nat) : Int) := by
  rw [PyProof.Rows.bitAnd_pp (by omega) (by omega)]
  rfl
theorem xor_and_add (a : Nat) : ∀ b : Nat, (a ^^^ b) + 2 * (a &&& b) = a + b := by
  induction a using Nat.strongRecOn with
  | _ a ih =>
    intro b
    by_cases h : a = 0
    · subst h; simp
    · have e := ih (a / 2) (by omega) (b / 2)
      have x1 := Nat.xor_mod_two_pow (a := a) (b := b) (n := 1)
      have x2 := Nat.and_mod_two_pow (a := a) (b := b) (n := 1)
      have x3 := Nat.xor_div_two_pow (a := a) (b := b) (n := 1)
      have x4 := Nat.and_div_two_pow (a := a) (b := b) (n := 1)
      simp only [Nat.pow_one] at x1 x2 x3 x4
      have da := Nat.div_add_mod a 2
      have db := Nat.div_add_mod b 2
      have dx := Nat.div_add_mod (a ^^^ b) 2
      have dy := Nat.div_add_mod (a &&& b) 2
      rw [x1, x3] at dx
      rw [x2, x4] at dy
      rcases Nat.mod_two_eq_zero_or_one a with ha | ha <;> rcases Nat.mod_two_eq_zero_or_one b with hb | hb <;> rw [ha, hb] at dx dy <;> rw [ha] at da <;> rw [hb] at db <;> simp at dx dy <;> omega
theorem bXor (a b : Nat) : Builtin.bitXor (a : Int) (b : Int) = ((a ^^^ b : Nat) : Int) := by
  rw [PyProof.Rows.bitXor_and, bAnd]
  have := xor_and_add a b
  omega
theorem ofShr (v : Nat) (j : Int) : (v : Int) / 2 ^ j.toNat = ((v / 2 ^ j.toNat : Nat) : Int) := by
  rw [Int.natCast_ediv, Int.natCast_pow]
  rfl
theorem ofShl (v : Nat) (j : Int) : (v : Int) * 2 ^ j.toNat = ((v * 2 ^ j.toNat : Nat) : Int) := by
  rw [Int.natCast_mul, Int.natCast_pow]
  rfl
theorem shl_and (w v : Nat) (j : Int) : Builtin.bitAnd ((v : Int) * 2 ^ j.toNat) ((onesN w : Nat) : Int) = ((v * 2 ^ j.toNat % 2 ^ w : Nat) : Int) := by
  rw [ofShl, bAnd]
  unfold onesN
  rw [Nat.and_two_pow_sub_one_eq_mod]
end KBL
/-! ### texts of numbers -/
namespace KBL
open PySem
def dg (i : Int) : List Nat := (Str.ofString (toString i)).cps.toList
theorem dg_is (i : Int) : dg i = (toString i).toList.map Char.toNat := PyProof.Rows.signs_ofString _
theorem map_char : ∀ {a b : List Char}, a.map Char.toNat = b.map Char.toNat → a = b
  | [], [], _ => rfl
  | [], _ :: _, h => by cases h
  | _ :: _, [], h => by cases h
  | x :: a, y :: b, h => by
    rw [List.map_cons, List.map_cons] at h
    injection h with h1 h2
    have e : x = y := Char.toNat_inj.mp h1
    rw [e, map_char h2]
theorem dg_inj {i j : Int} (h : dg i = dg j) : i = j := by
  rw [dg_is, dg_is] at h
  have e := map_char h
  rw [String.toList_inj] at e
  rw [Int.toString_eq_repr, Int.toString_eq_repr] at e
  exact Int.repr_inj.mp e
theorem nat_no (n : Nat) : ∀ c ∈ (Nat.repr n).toList, c.toNat ≠ 44 := by
  intro c hc
  rw [Nat.toList_repr] at hc
  have h := Nat.isDigit_of_mem_toDigits (by decide) (by decide) hc
  simp only [Char.isDigit, Bool.and_eq_true, decide_eq_true_eq] at h
  have h2 : 48 ≤ c.val.toNat := by simpa using UInt32.le_iff_toNat_le.mp h.1
  have e : c.val.toNat = c.toNat := rfl
  omega
theorem dg_no (i : Int) : 44 ∉ dg i := by
  rw [dg_is]
  intro hc
  obtain ⟨c, hc, e⟩ := List.mem_map.mp hc
  rw [Int.toString_eq_repr, Int.repr_eq_if] at hc
  split at hc
  · exact nat_no _ c hc e
  · rw [String.toList_append, List.mem_append] at hc
    rcases hc with hc | hc
    · have : c = '-' := by simpa using hc
      subst this
      exact absurd e (by decide)
    · exact nat_no _ c hc e
theorem cut44 : ∀ {a b x y : List Nat}, 44 ∉ a → 44 ∉ b → a ++ 44 :: x = b ++ 44 :: y → a = b ∧ x = y
  | [], [], _, _, _, _, h => by
    injection h with _ h
    exact ⟨rfl, h⟩
  | [], c :: b, _, _, _, hb, h => by
    injection h with h1 _
    exact absurd (by rw [← h1]; exact List.mem_cons_self ..) hb
  | c :: a, [], _, _, ha, _, h => by
    injection h with h1 _
    exact absurd (by rw [h1]; exact List.mem_cons_self ..) ha
  | c :: a, d :: b, x, y, ha, hb, h => by
    injection h with h1 h2
    obtain ⟨g1, g2⟩ := cut44 (fun z => ha (List.mem_cons_of_mem _ z)) (fun z => hb (List.mem_cons_of_mem _ z)) h2
    exact ⟨by rw [h1, g1], g2⟩
def bText (w s k f : Int) : Str := Str.empty ++ "Blend(" ++ toString w ++ ", " ++ toString s ++ ", " ++ toString k ++ ", " ++ toString f ++ ")"
theorem bText_list (w s k f : Int) : (bText w s k f).cps.toList = [66, 108, 101, 110, 100, 40] ++ (dg w ++ 44 :: (32 :: dg s ++ 44 :: (32 :: dg k ++ 44 :: (32 :: dg f ++ [41])))) := by
  unfold bText dg
  simp only [Str.cps_append, Array.toList_append, List.append_assoc]
  rfl
theorem no32 {l : List Nat} (h : 44 ∉ l) : 44 ∉ (32 :: l) := fun z => (List.mem_cons.mp z).elim (fun e => by cases e) h
theorem bText_inj {w s k f w' s' k' f' : Int} (h : bText w s k f = bText w' s' k' f') : w = w' ∧ s = s' ∧ k = k' ∧ f = f' := by
  have e := congrArg (fun x : Str => x.cps.toList) h
  simp only [bText_list] at e
  have e := List.append_cancel_left e
  obtain ⟨e1, e⟩ := cut44 (dg_no w) (dg_no w') e
  obtain ⟨e2, e⟩ := cut44 (a := 32 :: dg s) (b := 32 :: dg s') (no32 (dg_no s)) (no32 (dg_no s')) e
  obtain ⟨e3, e⟩ := cut44 (a := 32 :: dg k) (b := 32 :: dg k') (no32 (dg_no k)) (no32 (dg_no k')) e
  have e4 := List.append_cancel_right e
  injection e2 with _ e2
  injection e3 with _ e3
  injection e4 with _ e4
  exact ⟨dg_inj e1, dg_inj e2, dg_inj e3, dg_inj e4⟩
theorem num_len {i : Int} (h : i.natAbs.log2 < 1920) : (Str.ofString (toString i)).length ≤ 1921 := PyProof.Rows.int_text_len_1921 h
end KBL
namespace KBL
open PySem
def b2n (b : Bool) : Nat := if b then 1 else 0
theorem bit_one (n p : Nat) : Builtin.bitAnd ((n : Int) / 2 ^ p) 1 = ((b2n (n.testBit p) : Nat) : Int) := by
  rw [show ((n : Int) / 2 ^ p) = ((n / 2 ^ p : Nat) : Int) by rw [Int.natCast_ediv, Int.natCast_pow]; rfl]
  rw [show (1 : Int) = ((1 : Nat) : Int) from rfl, bAnd, Nat.and_one_is_mod, Nat.testBit_eq_decide_div_mod_eq]
  unfold b2n
  have := Nat.mod_two_eq_zero_or_one (n / 2 ^ p)
  rcases this with h | h <;> rw [h] <;> rfl
theorem b2n_one (b : Bool) : (((b2n b : Nat) : Int) = 1) ↔ b = true := by
  cases b <;> decide
theorem b2n_xor (a b : Bool) : Builtin.bitXor ((b2n a : Nat) : Int) ((b2n b : Nat) : Int) = ((b2n (a ^^ b) : Nat) : Int) := by
  rw [bXor]
  cases a <;> cases b <;> rfl
theorem mod_next (x i : Nat) : x % 2 ^ (i + 1) = x % 2 ^ i + b2n (x.testBit i) * 2 ^ i := by
  rw [Nat.mod_pow_succ, Nat.testBit_eq_decide_div_mod_eq]
  unfold b2n
  have := Nat.mod_two_eq_zero_or_one (x / 2 ^ i)
  rcases this with h | h <;> rw [h] <;> simp
end KBL

/-! KD: comprehensions whose elements are made. -/
namespace KD
open PySem PySem.Spec PyProof.Rows L2 KB KG KO
/-- all but lists is kept -/
def SameN (H H' : Hp) : Prop := ∀ a o, H a = some o → (∀ xs, o ≠ .lst xs) → H' a = some o
theorem SameN.of {H H' : Hp} (s : Same H H') : SameN H H' := fun a o e _ => s a o e
theorem SameN.trans {H H' H2 : Hp} (s : SameN H H') (t : SameN H' H2) : SameN H H2 := fun a o e n => t a o (s a o e n) n
theorem SameN.tup {H H' : Hp} {a : Addr} {xs : List V} (s : SameN H H') (h : H a = some (.tup xs)) : H' a = some (.tup xs) := s a _ h (fun _ z => by cases z)
theorem SameN.ins {H H' : Hp} {a C dx : Addr} {fs : List (Str × V)} (s : SameN H H') (h : H a = some (.ins C dx fs)) : H' a = some (.ins C dx fs) := s a _ h (fun _ z => by cases z)
/-- a comprehension without a test; R i v H: what the i-th element is -/
theorem lc_made {J : It} {n : Nat} {G : Hp → Prop} {Y : Nat → Hp → V → Hp → Prop} (wk : Walk J n G Y) {g : TG} {tt : TT} {te : TE} {vs : List Nat} {σ : L2.St} {H1 : Hp} {Q : VK} (R : Nat → V → Hp → Prop) (hn : n ≤ 10000)
    (up : ∀ i v H H', R i v H → SameN H H' → R i v H') (hG : ∀ H', Same H1 H' → G H')
    (hs : ∀ i x H H' (N : V → Hp → Prop) (B : Hp → Prop), i < n → Same H1 H → Y i H x H' → (∀ v H2, Same H H2 → R i v H2 → N v H2) → g x (wipe σ vs) H' fun σ2 H2 => wipe σ2 vs = wipe σ vs ∧ tt σ2 H2 fun b H3 => if b = true then te σ2 H3 N else B H3)
    (hd : ∀ D H' (ys : List V), H1 D = none → Same H1 H' → H' D = some (.lst ys) → ys.length = n → (∀ i v, ys[i]? = some v → R i v H') → Q (.ref D) H') :
    LcW J g tt te vs σ H1 Q := by
  intro D hD
  refine lc_it wk (Qd := fun H => Q (.ref D) H) (fun i H => Same H1 H ∧ ∃ ys : List V, H D = some (.lst ys) ∧ ys.length = i ∧ ∀ j v, ys[j]? = some v → R j v H) ⟨same_new hD, [], upd_same, rfl, fun j v e => by simp at e⟩ (fun i H _ p => hG H p.1) (fun i x H H' hi p y => ?_) (fun H p => ?_)
  · obtain ⟨sm, ys, hy, hl, hR⟩ := p
    refine hs i x H H' _ _ hi sm y (fun v H2 s2 r => ?_)
    have kp : ∀ zs, SameN H2 (upd H2 D (.lst zs)) := fun zs a o e no => by
      rw [upd_ne (fun z => no ys (by rw [z, s2 _ _ hy] at e; exact (Option.some.inj e).symm))]
      exact e
    refine ⟨ys, s2 _ _ hy, small1000' (by omega), same_mut (sm.trans s2) hD, ys ++ [v], upd_same, by simp [hl], fun j w e => ?_⟩
    by_cases hj : j < ys.length
    · rw [List.getElem?_append_left hj] at e
      exact up _ _ _ _ (hR j w e) ((SameN.of s2).trans (kp _))
    · rw [List.getElem?_append_right (by omega)] at e
      have h0 : j - ys.length = 0 := by
        cases z : j - ys.length with
        | zero => rfl
        | succ m => rw [z] at e; simp at e
      rw [h0] at e
      have ew : v = w := Option.some.inj e
      subst ew
      have ej : j = i := by omega
      subst ej
      exact up _ _ _ _ r (kp _)
  · obtain ⟨sm, ys, hy, hl, hR⟩ := p
    exact hd D H ys hD sm hy hl hR
/-- a comprehension whose test is never true -/
theorem lc_none {J : It} {n : Nat} {G : Hp → Prop} {Y : Nat → Hp → V → Hp → Prop} (wk : Walk J n G Y) {g : TG} {tt : TT} {te : TE} {vs : List Nat} {σ : L2.St} {H1 : Hp} {Q : VK}
    (hG : ∀ H', Same H1 H' → G H')
    (hs : ∀ i x H H' (B : Hp → Prop) (N : V → Hp → Prop), i < n → Same H1 H → Y i H x H' → (∀ H2, Same H H2 → B H2) → g x (wipe σ vs) H' fun σ2 H2 => wipe σ2 vs = wipe σ vs ∧ tt σ2 H2 fun b H3 => if b = true then te σ2 H3 N else B H3)
    (hd : ∀ D H', H1 D = none → Same H1 H' → H' D = some (.lst []) → Q (.ref D) H') :
    LcW J g tt te vs σ H1 Q := by
  intro D hD
  refine lc_it wk (Qd := fun H => Q (.ref D) H) (fun i H => Same H1 H ∧ H D = some (.lst [])) ⟨same_new hD, upd_same⟩ (fun i H _ p => hG H p.1) (fun i x H H' hi p y => ?_) (fun H p => hd D H hD p.1 p.2)
  exact hs i x H H' _ _ hi p.1 y (fun H2 s2 => ⟨p.1.trans s2, s2 _ _ p.2⟩)
theorem r_yes {σ : L2.St} {H : Hp} {QT : Bool → Hp → Prop} (q : QT true H) : tYes σ H QT := q
/-! ### what repr shows -/
open KY
theorem fit_int {tag : Str} (ht : (reprText tag).length ≤ 100) {i : Int} (h : i.natAbs.log2 < 1920) : Fit tag (.sc (.int i)) := by
  have l := KBL.num_len h
  have sl2 : 10000 ≤ sizeLine := by decide
  refine ⟨?_, ?_, ?_⟩
  · simp only [Dt.d, Sc.d, PyData.showable]
    exact decide_eq_true h
  · simp [KY.pairD, PyData.depth, PyData.depthAll, Dt.d, Sc.d]
  · simp only [KY.pairD, PyData.shown, PyData.shownAll, Dt.d, Sc.d, listText, textFrom, Str.length_append]
    have c1 : (Str.ofString "[").length = 1 := by decide +kernel
    have c2 : (Str.ofString "]").length = 1 := by decide +kernel
    have c3 : (Str.ofString (if 0 > 0 then ", " else "")).length = 0 := by decide +kernel
    have c4 : (Str.ofString (if 0 + 1 > 0 then ", " else "")).length = 2 := by decide +kernel
    omega
def fitB (tag : Str) (t : Dt) : Bool := PyData.showable t.d && decide ((KY.pairD tag t).depth ≤ 60) && decide ((KY.pairD tag t).shown.length ≤ 1000)
theorem fit_of {tag : Str} {t : Dt} (h : fitB tag t = true) : Fit tag t := by
  unfold fitB at h
  simp only [Bool.and_eq_true, decide_eq_true_eq] at h
  exact ⟨h.1.1, h.1.2, Nat.le_trans h.2 (by decide)⟩
theorem strOk_of (s : String) : PyData.strOk (Str.ofString s) = true := by
  unfold PyData.strOk
  rw [Str.ofString_eq_toList]
  rw [List.all_toArray, List.all_eq_true]
  intro x hx
  obtain ⟨c, _, rfl⟩ := List.mem_map.mp hx
  have h := c.valid
  have e : c.toNat = c.val.toNat := rfl
  refine decide_eq_true ?_
  rw [e]
  rcases h with h | h
  · have : c.val.toNat < 0xd800 := h
    omega
  · have : c.val.toNat < 0x110000 := h.2
    omega
theorem strOk_app (a b : Str) : PyData.strOk (a ++ b) = (PyData.strOk a && PyData.strOk b) := by
  unfold PyData.strOk
  show (a.cps ++ b.cps).all _ = _
  rw [Array.all_append]
theorem ok_intText {tag : Str} (ht : PyData.strOk (reprText tag) = true) (i : Int) : PyData.strOk (KY.pairD tag (.sc (.int i))).shown = true := by
  simp only [KY.pairD, PyData.shown, PyData.shownAll, Dt.d, Sc.d, listText, textFrom, strOk_app, strOk_of, ht, Bool.and_self]
/-! ### f(k = v, ..), its reading named -/
section
variable {X : Cx}
def tCK (ks : List Str) (sp : Sp) (gV : List V → List V → List V) (E : XK) (tk : TA) : TE := fun σ H Q => tk σ H fun zs H2 => zs.length = ks.length ∧ sp (gV [] zs) H2 Q E
theorem pe_callK {CX : CXT} {k : Nat} {x : Str} {ps ks : List Str} {sp : Sp} {gV : List V → List V → List V} {E : XK} {kws : List Keyword} {p pos : Pos} {tk : TA} (c : CalleeKw X.prog X.w X.K X.mg X.base CX k x ps sp 0 ks gV) (room : Room k X.A) (gl : Gl X x) (pass : Passes CX X E) (hkw : PK X kws tk)
    (d1 : (backToKw pos (keywordEach kws X.env)).all (·.1.isSome) = true := by rfl) (d2 : (backToKw pos (keywordEach kws X.env)).filterMap (·.1) = ks := by rfl) (d3 : (x == ("__debug__" : Str)) = false := by decide)
    (d4 : ((backTo pos (starEach [] X.env)).any (·.1) || (backToKw pos (keywordEach kws X.env)).any (·.1.isNone)) = false := by rfl) :
    PE X (.Call (.Name x p) [] kws pos) (tCK ks sp gV E tk) := KC.pe_callK0 c room gl pass hkw d1 d2 d3 d4
theorem r_ck {σ : L2.St} {H : Hp} {Q : VK} {ks : List Str} {sp : Sp} {gV : List V → List V → List V} {E : XK} {tk : TA} (q : tk σ H fun zs H2 => zs.length = ks.length ∧ sp (gV [] zs) H2 Q E) : tCK ks sp gV E tk σ H Q := q
end
end KD

/-! KR: own object beside data of any type under &, |, ^, <<, >>, on either side. -/
namespace KR
open PySem PySem.Spec PyProof.Rows L2 KB KG KO KY
section
variable {prog : Program} {w : World} {A : Around} {E : Value → Shared → Prop} {s : Shared} {K : PySem.W.Frag} {x C L g g2 : Addr} {hb : Heap} {m : Str → Option Value} {ox : Obj} {od : Option Obj} {T : String}
open PySem.W in
/-- o op v -/
theorem bin_left {op : Operator} {v : Value} {fo ro rc : Option Value} {Z : Value → Shared → Prop} (F : Fr hb L s.heap m) (X0 : K.In hb) (I : InstAt s.heap x ox C od) (lv : Looks (model prog w) s.heap (typeOf v) (.type T)) (c1 : selfFirst K C = true)
    (c2 : findIn K (.ref C) (PySem.dunder op.info.2) = some (some (.ref g))) (c3 : isFn K (.ref g) = true) (c4 : findIn K (.ref C) (dunderR op.info.2) = some rc) (c5 : rc = none ∨ ∃ z : Addr, rc = some (.ref z))
    (c6 : findIn K (.type T) (PySem.dunder op.info.2) = some fo) (c7 : findIn K (.type T) (dunderR op.info.2) = some ro) (c8 : subIn K (.type T) (.ref C) = some false)
    (go : wpAny (model prog w) A (call (.ref g) [.ref x, v]) (PySem.W.CmpBack Z) E s) : wpAny (model prog w) A (binaryOp op (.ref x) v) Z E s := by
  have XK := X0.keeps F.keep
  obtain ⟨cd, rest, hcd, hmro⟩ := ksp_first c1
  rcases oi : op.info with ⟨sy, n1⟩
  rw [oi] at c2 c4 c6 c7
  dsimp only at c2 c4 c6 c7
  have once := ksp_try XK I c2 c3 go
  obtain ⟨sh, sg, sd, stk, sos⟩ := s
  have k1 : Looks (model prog w) sh (typeOf (.ref x)) (.ref C) := I.type
  have k2 : Looks (model prog w) sh (typeOf v) (.type T) := lv
  have k3 : Looks (model prog w) sh (fillsNumberSlot (.ref C) n1) true := fills_K XK hcd hmro c2
  have k4 : Looks (model prog w) sh (fillsNumberSlot (.type T) n1) _ := ksp_fillsT XK c6 c7
  have k5 : Looks (model prog w) sh (isSubtype (.type T) (.ref C)) false := looks_subIn XK c8
  have k6 : Looks (model prog w) sh (numberSlotInPython (.ref C) n1) true := ksp_inPy XK c2 c4 c5
  have k7 : Looks (model prog w) sh (numberSlotInPython (.type T) n1) false := Looks.of_pure rfl
  have k8 : Looks (model prog w) sh (typeLookup (.type T) (dunderR n1)) ro := looks_findIn XK c7
  revert k4
  generalize ((fo.isSome && !isSeqSlot fo) || (ro.isSome && !isSeqSlot ro)) = rt
  intro k4
  have nq : (Value.ref C == Value.type T) = false := Bool.eq_false_iff.mpr fun q => by cases beq_iff_eq.mp q
  simp only [binaryOp, oi]
  refine wpAny_holding (wpAny_bind ?_)
  unfold binaryOp1
  refine wpAny_bind (k1.at (wpAny_bind (k2.at (wpAny_bind (k3.at ?_)))))
  simp only [nq, Bool.false_eq_true, if_false]
  cases rt
  all_goals
    ksp_lk
    refine wpAny_mono once (fun r s' y => ?_) fun _ _ e => e
    obtain ⟨v', rfl, hq⟩ := y
    ksp_lk
    exact hq
open PySem.W in
/-- v op o -/
theorem bin_right {op : Operator} {v : Value} {fo ro : Option Value} {fl : Bool} {Z : Value → Shared → Prop} (F : Fr hb L s.heap m) (X0 : K.In hb) (I : InstAt s.heap x ox C od) (lv : Looks (model prog w) s.heap (typeOf v) (.type T)) (c1 : selfFirst K C = true)
    (c2 : findIn K (.ref C) (PySem.dunder op.info.2) = some (some (.ref g2))) (c3 : isFn K (.ref g) = true) (c4 : findIn K (.ref C) (dunderR op.info.2) = some (some (.ref g)))
    (c6 : findIn K (.type T) (PySem.dunder op.info.2) = some fo) (c7 : findIn K (.type T) (dunderR op.info.2) = some ro) (c9 : ((fo.isSome && !isSeqSlot fo) || (ro.isSome && !isSeqSlot ro)) = fl) (c8 : fl = true → subIn K (.ref C) (.type T) = some false)
    (no : fl = true → Looks (model prog w) s.heap (tryMethod v (PySem.dunder op.info.2) (.ref x)) none)
    (go : wpAny (model prog w) A (call (.ref g) [.ref x, v]) (PySem.W.CmpBack Z) E s) : wpAny (model prog w) A (binaryOp op v (.ref x)) Z E s := by
  have XK := X0.keeps F.keep
  obtain ⟨cd, rest, hcd, hmro⟩ := ksp_first c1
  rcases oi : op.info with ⟨sy, n1⟩
  rw [oi] at c2 c4 c6 c7 no
  dsimp only at c2 c4 c6 c7 no
  have once := ksp_try XK I c4 c3 go
  obtain ⟨sh, sg, sd, stk, sos⟩ := s
  have k1 : Looks (model prog w) sh (typeOf (.ref x)) (.ref C) := I.type
  have k2 : Looks (model prog w) sh (typeOf v) (.type T) := lv
  have k3 : Looks (model prog w) sh (fillsNumberSlot (.ref C) n1) true := fills_K XK hcd hmro c2
  have k4 : Looks (model prog w) sh (fillsNumberSlot (.type T) n1) fl := c9 ▸ ksp_fillsT XK c6 c7
  have k7 : Looks (model prog w) sh (numberSlotInPython (.type T) n1) false := Looks.of_pure rfl
  have nq : (Value.type T == Value.ref C) = false := Bool.eq_false_iff.mpr fun q => by cases beq_iff_eq.mp q
  simp only [binaryOp, oi]
  refine wpAny_holding (wpAny_bind ?_)
  unfold binaryOp1
  refine wpAny_bind (k2.at (wpAny_bind (k1.at (wpAny_bind (k4.at ?_)))))
  simp only [nq, Bool.false_eq_true, if_false]
  cases fl with
  | false =>
    ksp_lk
    refine wpAny_mono once (fun r s' y => ?_) fun _ _ e => e
    obtain ⟨v', rfl, hq⟩ := y
    ksp_lk
    exact hq
  | true =>
    have k5 : Looks (model prog w) sh (isSubtype (.ref C) (.type T)) false := looks_subIn XK (c8 rfl)
    have k9 := no rfl
    ksp_lk
    refine Looks.at k9 ?_
    ksp_lk
    refine wpAny_mono once (fun r s' y => ?_) fun _ _ e => e
    obtain ⟨v', rfl, hq⟩ := y
    ksp_lk
    exact hq
end
section
variable {X : Cx} {pins : List (Addr × Obj)} {σ : L2.St} {H : Hp} {st : Shared}
theorem od_type {v : V} {u : Value} {t : Dt} (inv : Inv X pins σ H st) (o : OdAt H v t) (r : RelV v u) : st.TypeIs u t.ty := by
  cases t with
  | sc s =>
    obtain rfl : v = s.v := o
    cases s with
    | non => cases (show u = Value.none from r); exact rfl
    | bl b => cases (show u = Value.bool b from r); exact rfl
    | int i => obtain ⟨t, rfl⟩ := (show ∃ t, u = Value.int i t from r); exact rfl
    | str x => obtain ⟨t, rfl⟩ := (show ∃ t, u = Value.str x t from r); exact rfl
  | tup l =>
    obtain ⟨a, rfl, e⟩ := o
    obtain rfl : u = Value.ref a := r
    obtain ⟨its, rv, ⟨ob, ho, hc, n, hd⟩, _⟩ := inv.tuple (SqT.of e)
    exact ⟨_, ho, hc⟩
  | lst l =>
    obtain ⟨a, rfl, e⟩ := o
    obtain rfl : u = Value.ref a := r
    obtain ⟨its, rv, ⟨ob, n, ho, hc, _, hd⟩, _⟩ := inv.list (SqL.of e)
    exact ⟨_, ho, hc⟩
  | dct l =>
    obtain ⟨a, rfl, e⟩ := o
    obtain rfl : u = Value.ref a := r
    obtain ⟨_, ns, vs, kv, ob, es, ep, ho, hex, hd, _, prs, _⟩ := dk_of inv.hok e
    exact ⟨_, ho, hex.1⟩
theorem type_looks {M : Model} {s : Shared} {u : Value} {T : String} (h : s.TypeIs u T) : PySem.W.Looks M s.heap (typeOf u) (.type T) := by
  intro A Q E s' k q
  refine wpAny_typeOf (T := T) ?_ q
  cases u with
  | ref b =>
    obtain ⟨o, e, c⟩ := h
    exact ⟨o, k _ _ e, c⟩
  | _ => exact h
end
section
variable {M : Model} {s : Shared} {x C dx : Addr}
open PySem.SeqAt PySem.MeetsSeq PySem.AutoSeq1
theorem int_and_no (i : Int) (t : Tok) : Meets (Builtin.«int.__and__» ⟨[.int i t, .ref x], []⟩) (fun _ R s => s.heap.get? x = some (PySem.W.instObj C dx) ∧ R (.ok (.ret .notImplemented)) s) :=
  .of_wp fun prog w A R s h => by obtain ⟨hp, g, d, tk, os⟩ := s; obtain ⟨hl, h⟩ := h; wp_walk using wpAny_loadPart' hl, wpAny_load hl; exact ⟨_, rfl, h⟩
theorem int_or_no (i : Int) (t : Tok) : Meets (Builtin.«int.__or__» ⟨[.int i t, .ref x], []⟩) (fun _ R s => s.heap.get? x = some (PySem.W.instObj C dx) ∧ R (.ok (.ret .notImplemented)) s) :=
  .of_wp fun prog w A R s h => by obtain ⟨hp, g, d, tk, os⟩ := s; obtain ⟨hl, h⟩ := h; wp_walk using wpAny_loadPart' hl, wpAny_load hl; exact ⟨_, rfl, h⟩
theorem int_xor_no (i : Int) (t : Tok) : Meets (Builtin.«int.__xor__» ⟨[.int i t, .ref x], []⟩) (fun _ R s => s.heap.get? x = some (PySem.W.instObj C dx) ∧ R (.ok (.ret .notImplemented)) s) :=
  .of_wp fun prog w A R s h => by obtain ⟨hp, g, d, tk, os⟩ := s; obtain ⟨hl, h⟩ := h; wp_walk using wpAny_loadPart' hl, wpAny_load hl; exact ⟨_, rfl, h⟩
theorem bool_and_no (b : Bool) : Meets (Builtin.«bool.__and__» ⟨[.bool b, .ref x], []⟩) (fun _ R s => s.heap.get? x = some (PySem.W.instObj C dx) ∧ R (.ok (.ret .notImplemented)) s) :=
  .of_wp fun prog w A R s h => by obtain ⟨hp, g, d, tk, os⟩ := s; obtain ⟨hl, h⟩ := h; wp_walk using wpAny_loadPart' hl, wpAny_load hl; exact ⟨_, rfl, h⟩
theorem bool_or_no (b : Bool) : Meets (Builtin.«bool.__or__» ⟨[.bool b, .ref x], []⟩) (fun _ R s => s.heap.get? x = some (PySem.W.instObj C dx) ∧ R (.ok (.ret .notImplemented)) s) :=
  .of_wp fun prog w A R s h => by obtain ⟨hp, g, d, tk, os⟩ := s; obtain ⟨hl, h⟩ := h; wp_walk using wpAny_loadPart' hl, wpAny_load hl; exact ⟨_, rfl, h⟩
theorem bool_xor_no (b : Bool) : Meets (Builtin.«bool.__xor__» ⟨[.bool b, .ref x], []⟩) (fun _ R s => s.heap.get? x = some (PySem.W.instObj C dx) ∧ R (.ok (.ret .notImplemented)) s) :=
  .of_wp fun prog w A R s h => by obtain ⟨hp, g, d, tk, os⟩ := s; obtain ⟨hl, h⟩ := h; wp_walk using wpAny_loadPart' hl, wpAny_load hl; exact ⟨_, rfl, h⟩
end
section
variable {prog : Program} {w : World} {M : Model} {s : Shared} {x l C dx : Addr}
open PySem.SeqAt PySem.MeetsSeq PySem.AutoSeq1
theorem dict_or_no (es : Array DictEntry) (n : Nat) (dd : Option Addr) (sl : Array (Option Value)) : MeetsIn prog w (Builtin.«dict.__or__» ⟨[.ref l, .ref x], []⟩) (fun _ R s => s.heap.get? l = some { cls := .type "dict", dict := dd, data := .dict es n, slots := sl } ∧ s.heap.get? x = some (PySem.W.instObj C dx) ∧ PySem.W.Looks (model prog w) s.heap (isSubtype (.ref C) (.type "dict")) false ∧ R (.ok (.ret .notImplemented)) s) :=
  .of_wp fun A R s h => by
    obtain ⟨hp, g, d, tk, os⟩ := s
    obtain ⟨hl, hx, hs, h⟩ := h
    have f1 : isSubtype (.type "dict") (.type "dict") = pure true := by rw [isSubtype_type]; kernel_rfl
    wp_walk using wpAny_loadPart' hl, wpAny_load hl, wpAny_loadPart' hx, wpAny_load hx, hs.here
    exact ⟨_, rfl, h⟩
end
section
variable {prog : Program} {w : World} {A : Around} {E : Value → Shared → Prop} {s : Shared} {x C dx : Addr} {Q : Option Value → Shared → Prop}
theorem try_no {u : Value} {nm T id : String} (slot : Slot T (PySem.dunder nm) id) (ty : s.TypeIs u T) (c : ∀ Z : Value → Shared → Prop, Z .notImplemented s → wpAny (model prog w) A (call (.builtin id) [u, .ref x]) Z E s) (q : Q none s) : wpAny (model prog w) A (tryMethod u (PySem.dunder nm) (.ref x)) Q E s :=
  wpAny_tryMethod_declines (T := T) (name := PySem.dunder nm) (id := id) ty slot (c _ ⟨rfl, q⟩)
theorem try_int {i : Int} {t : Tok} {nm : String} (hn : nm = "and" ∨ nm = "or" ∨ nm = "xor") (h : s.heap.get? x = some (PySem.W.instObj C dx)) (q : Q none s) : wpAny (model prog w) A (tryMethod (.int i t) (PySem.dunder nm) (.ref x)) Q E s := by
  rcases hn with rfl | rfl | rfl
  · exact try_no (nm := "and") (T := "int") (id := "int.__and__") F.slot_int_and (typeIs_int s i t) (fun Z z => call_meets F.slot_int_and (typeIs_int s i t) F.entry_int_and (F.args_int_and_2 _ _) (int_and_no i t) ⟨h, z⟩) q
  · exact try_no (nm := "or") (T := "int") (id := "int.__or__") F.slot_int_or (typeIs_int s i t) (fun Z z => call_meets F.slot_int_or (typeIs_int s i t) F.entry_int_or (F.args_int_or_2 _ _) (int_or_no i t) ⟨h, z⟩) q
  · exact try_no (nm := "xor") (T := "int") (id := "int.__xor__") F.slot_int_xor (typeIs_int s i t) (fun Z z => call_meets F.slot_int_xor (typeIs_int s i t) F.entry_int_xor (F.args_int_xor_2 _ _) (int_xor_no i t) ⟨h, z⟩) q
theorem try_bool {b : Bool} {nm : String} (hn : nm = "and" ∨ nm = "or" ∨ nm = "xor") (h : s.heap.get? x = some (PySem.W.instObj C dx)) (q : Q none s) : wpAny (model prog w) A (tryMethod (.bool b) (PySem.dunder nm) (.ref x)) Q E s := by
  have ty : s.TypeIs (.bool b) "bool" := rfl
  rcases hn with rfl | rfl | rfl
  · exact try_no (nm := "and") (T := "bool") (id := "bool.__and__") F.slot_bool_and ty (fun Z z => call_meets F.slot_bool_and ty F.entry_bool_and (F.args_bool_and_2 _ _) (bool_and_no b) ⟨h, z⟩) q
  · exact try_no (nm := "or") (T := "bool") (id := "bool.__or__") F.slot_bool_or ty (fun Z z => call_meets F.slot_bool_or ty F.entry_bool_or (F.args_bool_or_2 _ _) (bool_or_no b) ⟨h, z⟩) q
  · exact try_no (nm := "xor") (T := "bool") (id := "bool.__xor__") F.slot_bool_xor ty (fun Z z => call_meets F.slot_bool_xor ty F.entry_bool_xor (F.args_bool_xor_2 _ _) (bool_xor_no b) ⟨h, z⟩) q
theorem try_dict {l : Addr} {es : Array DictEntry} {n : Nat} {dd : Option Addr} {sl : Array (Option Value)} (hl : s.heap.get? l = some { cls := .type "dict", dict := dd, data := .dict es n, slots := sl }) (h : s.heap.get? x = some (PySem.W.instObj C dx)) (ls : PySem.W.Looks (model prog w) s.heap (isSubtype (.ref C) (.type "dict")) false) (q : Q none s) :
    wpAny (model prog w) A (tryMethod (.ref l) (PySem.dunder "or") (.ref x)) Q E s := by
  have ty : s.TypeIs (.ref l) "dict" := ⟨_, hl, rfl⟩
  exact try_no (nm := "or") (T := "dict") (id := "dict.__or__") F.slot_dict_or ty (fun Z z => call_meetsIn F.slot_dict_or ty F.entry_dict_or (F.args_dict_or_2 _ _) (dict_or_no es n dd sl) ⟨hl, h, ls, z⟩) q
end
/-! ### the rules -/
theorem ty_in (t : Dt) : t.ty ∈ ["NoneType", "bool", "int", "str", "tuple", "list", "dict"] := by
  cases t with
  | sc s => cases s <;> simp [Dt.ty]
  | tup => simp [Dt.ty]
  | lst => simp [Dt.ty]
  | dct => simp [Dt.ty]
theorem find_ty (K : PySem.W.Frag) {T : String} (h : T ∈ ["NoneType", "bool", "int", "str", "tuple", "list", "dict"]) (n : Str) (hn : n ∈ (["__and__", "__rand__", "__or__", "__ror__", "__xor__", "__rxor__", "__lshift__", "__rlshift__", "__rshift__", "__rrshift__"] : List Str)) : ∃ r, PySem.W.findIn K (.type T) n = some r := by
  have z : ∀ T ∈ ["NoneType", "bool", "int", "str", "tuple", "list", "dict"], ∀ n ∈ (["__and__", "__rand__", "__or__", "__ror__", "__xor__", "__rxor__", "__lshift__", "__rlshift__", "__rshift__", "__rrshift__"] : List Str), (PySem.fastLookup T n).isSome = true := by decide +kernel
  exact Option.isSome_iff_exists.mp (z T h n hn)
theorem sub_ty (K : PySem.W.Frag) {T : String} (h : T ∈ ["NoneType", "bool", "int", "str", "tuple", "list", "dict"]) (C : Addr) : PySem.W.subIn K (.type T) (.ref C) = some false := by
  simp only [List.mem_cons, List.not_mem_nil, or_false] at h
  rcases h with rfl | rfl | rfl | rfl | rfl | rfl | rfl <;> rfl
section
variable {X : Cx}
def ops3 : List Operator := [.BitAnd, .BitOr, .BitXor]
def ops5 : List Operator := [.BitAnd, .BitOr, .BitXor, .LShift, .RShift]
structure OwnBD (P : Program) (w : World) (K : PySem.W.Frag) (mg : Str → Option Value) (base : Heap) (CX : CXT) (k : Nat) (C : Addr) (op : Operator) (ps : List Str) (sp : Sp) : Prop where
  ex : ∃ (g : Addr) (fd : FuncData) (rc : Option Value), op ∈ ops5 ∧ PySem.W.selfFirst K C = true ∧ PySem.W.findIn K (.ref C) (PySem.dunder op.info.2) = some (some (.ref g)) ∧ PySem.W.isFn K (.ref g) = true ∧ PySem.W.findIn K (.ref C) (dunderR op.info.2) = some rc ∧ (rc = none ∨ ∃ g : Addr, rc = some (.ref g)) ∧ FnOk P w K mg base CX k g fd ps sp ∧ Binds K fd ps []
structure OwnBR (P : Program) (w : World) (K : PySem.W.Frag) (mg : Str → Option Value) (base : Heap) (CX : CXT) (k : Nat) (C : Addr) (op : Operator) (ps : List Str) (sp : Sp) : Prop where
  ex : ∃ (g g2 : Addr) (fd : FuncData), op ∈ ops3 ∧ PySem.W.selfFirst K C = true ∧ PySem.W.findIn K (.ref C) (PySem.dunder op.info.2) = some (some (.ref g2)) ∧ PySem.W.isFn K (.ref g) = true ∧ PySem.W.findIn K (.ref C) (dunderR op.info.2) = some (some (.ref g)) ∧
    PySem.W.subIn K (.ref C) (.type "int") = some false ∧ PySem.W.subIn K (.ref C) (.type "bool") = some false ∧ PySem.W.subIn K (.ref C) (.type "dict") = some false ∧ FnOk P w K mg base CX k g fd ps sp ∧ Binds K fd ps []
theorem find5 (K : PySem.W.Frag) {T : String} (h : T ∈ ["NoneType", "bool", "int", "str", "tuple", "list", "dict"]) {op : Operator} (ho : op ∈ ops5) : (∃ r, PySem.W.findIn K (.type T) (PySem.dunder op.info.2) = some r) ∧ ∃ r, PySem.W.findIn K (.type T) (dunderR op.info.2) = some r := by
  have m : ∀ op ∈ ops5, PySem.dunder op.info.2 ∈ (["__and__", "__rand__", "__or__", "__ror__", "__xor__", "__rxor__", "__lshift__", "__rlshift__", "__rshift__", "__rrshift__"] : List Str) ∧ dunderR op.info.2 ∈ (["__and__", "__rand__", "__or__", "__ror__", "__xor__", "__rxor__", "__lshift__", "__rlshift__", "__rshift__", "__rrshift__"] : List Str) := by
    intro op ho
    simp only [ops5, List.mem_cons, List.not_mem_nil, or_false] at ho
    rcases ho with rfl | rfl | rfl | rfl | rfl <;> decide +kernel
  exact ⟨find_ty K h _ (m op ho).1, find_ty K h _ (m op ho).2⟩
def rBinD (C : Addr) (sp : Sp) (E : XK) : R2 := fun x y H Q => ∃ (a dx : Addr) (fs : List (Str × V)) (t : Dt), x = .ref a ∧ H a = some (.ins C dx fs) ∧ OdAt H y t ∧ sp [x, y] H Q E
def rBinR (C : Addr) (sp : Sp) (E : XK) : R2 := fun x y H Q => ∃ (a dx : Addr) (fs : List (Str × V)) (t : Dt), y = .ref a ∧ H a = some (.ins C dx fs) ∧ OdAt H x t ∧ sp [y, x] H Q E
theorem op_binD {CX : CXT} {E : XK} {C : Addr} {op : Operator} {ps : List Str} {sp : Sp} {n : Nat} (c : OwnBD X.prog X.w X.K X.mg X.base CX n C op ps sp) (room : Room n X.A) (pass : Passes CX X E) : OpR X (binaryOp op) (rBinD C sp E) := by
  obtain ⟨g, fd, rc, ho, c1, c2, c3, c4, c5, F, bind⟩ := c.ex
  intro pins st σ h x y v u Z inv rx ry pre
  obtain ⟨a, dx, fs, t, rfl, ha, od, z⟩ := pre
  obtain rfl : v = Value.ref a := rx
  obtain ⟨oo, J⟩ := inst_of inv ha
  obtain ⟨m, hF⟩ := inv.fr
  obtain ⟨⟨fo, e1⟩, ro, e2⟩ := find5 X.K (ty_in t) ho
  refine bin_left hF inv.ok.mod.kin J (type_looks (od_type inv od ry)) c1 c2 c3 c4 c5 e1 e2 (sub_ty X.K (ty_in t) C) ?_
  refine wpAny_mono (run_fn (us := [.ref a, u]) (vs := [.ref a, y]) F room bind .nil pass inv (.cons rfl (.cons ry .nil)) z) (fun w s2 r => ?_) fun _ _ z => z
  obtain ⟨z', h2, inv2, rz, qz⟩ := r
  exact SlX.cmpback rz ⟨z', h2, inv2, rz, qz⟩
theorem on3 {op : Operator} (ho : op ∈ ops3) : op.info.2 = "and" ∨ op.info.2 = "or" ∨ op.info.2 = "xor" := by
  simp only [ops3, List.mem_cons, List.not_mem_nil, or_false] at ho
  rcases ho with rfl | rfl | rfl
  · exact .inl rfl
  · exact .inr (.inl rfl)
  · exact .inr (.inr rfl)
/-- the three operations, by types of data that know none of them, or decline -/
theorem declines {P : Program} {w : World} {pins : List (Addr × Obj)} {σ : L2.St} {H : Hp} {st : Shared} {K : PySem.W.Frag} {v : V} {u : Value} {t : Dt} {a C dx : Addr} {oo : Option Obj} {op : Operator} {fo ro : Option Value} (ho : op ∈ ops3) (inv : Inv X pins σ H st) (XK : K.In st.heap) (od : OdAt H v t) (r : RelV v u) (J : PySem.W.InstAt st.heap a (PySem.W.instObj C dx) C oo)
    (s3 : PySem.W.subIn K (.ref C) (.type "dict") = some false)
    (e1 : PySem.W.findIn K (.type t.ty) (PySem.dunder op.info.2) = some fo) (e2 : PySem.W.findIn K (.type t.ty) (dunderR op.info.2) = some ro) (fl : ((fo.isSome && !isSeqSlot fo) || (ro.isSome && !isSeqSlot ro)) = true) :
    (t.ty = "int" ∨ t.ty = "bool" ∨ t.ty = "dict") ∧ PySem.W.Looks (model P w) st.heap (tryMethod u (PySem.dunder op.info.2) (.ref a)) none := by
  have hx : st.heap.get? a = some (PySem.W.instObj C dx) := J.at_
  have none4 : ∀ T ∈ ["NoneType", "str", "tuple", "list"], ∀ n ∈ (["__and__", "__rand__", "__or__", "__ror__", "__xor__", "__rxor__"] : List Str), (PySem.fastLookup T n).map Option.isNone = some true := by decide +kernel
  have noneD : ∀ n ∈ (["__and__", "__rand__", "__xor__", "__rxor__"] : List Str), (PySem.fastLookup "dict" n).map Option.isNone = some true := by decide +kernel
  have d1 : PySem.dunder Operator.BitAnd.info.2 = "__and__" ∧ dunderR Operator.BitAnd.info.2 = "__rand__" := by decide +kernel
  have d2 : PySem.dunder Operator.BitOr.info.2 = "__or__" ∧ dunderR Operator.BitOr.info.2 = "__ror__" := by decide +kernel
  have d3 : PySem.dunder Operator.BitXor.info.2 = "__xor__" ∧ dunderR Operator.BitXor.info.2 = "__rxor__" := by decide +kernel
  have lk : ∀ (T : String) (n : Str) (r : Option Value), PySem.W.findIn K (.type T) n = some r → PySem.fastLookup T n = some r := fun _ _ _ e => e
  replace e1 := lk _ _ _ e1
  replace e2 := lk _ _ _ e2
  have clash : ∀ (T : String) (n1 n2 : Str), (PySem.fastLookup T n1).map Option.isNone = some true → (PySem.fastLookup T n2).map Option.isNone = some true → PySem.fastLookup T n1 = some fo → PySem.fastLookup T n2 = some ro → False := by
    intro T n1 n2 y1 y2 z1 z2
    rw [z1] at y1
    rw [z2] at y2
    cases fo with
    | some _ => cases y1
    | none =>
      cases ro with
      | some _ => cases y2
      | none => cases fl
  have four : t.ty ∈ ["NoneType", "str", "tuple", "list"] → False := by
    intro ht
    simp only [ops3, List.mem_cons, List.not_mem_nil, or_false] at ho
    rcases ho with rfl | rfl | rfl
    · rw [d1.1] at e1
      rw [d1.2] at e2
      exact clash _ _ _ (none4 _ ht "__and__" (by simp)) (none4 _ ht "__rand__" (by simp)) e1 e2
    · rw [d2.1] at e1
      rw [d2.2] at e2
      exact clash _ _ _ (none4 _ ht "__or__" (by simp)) (none4 _ ht "__ror__" (by simp)) e1 e2
    · rw [d3.1] at e1
      rw [d3.2] at e2
      exact clash _ _ _ (none4 _ ht "__xor__" (by simp)) (none4 _ ht "__rxor__" (by simp)) e1 e2
  cases t with
  | sc sc0 =>
    obtain rfl : v = sc0.v := od
    cases sc0 with
    | non => exact (four (by simp [Dt.ty])).elim
    | str => exact (four (by simp [Dt.ty])).elim
    | int i =>
      obtain ⟨tk, rfl⟩ := (show ∃ t, u = Value.int i t from r)
      refine ⟨.inl rfl, fun A Q E s' k q => ?_⟩
      exact try_int (C := C) (dx := dx) (on3 ho) (k _ _ hx) q
    | bl b =>
      obtain rfl := (show u = Value.bool b from r)
      refine ⟨.inr (.inl rfl), fun A Q E s' k q => ?_⟩
      exact try_bool (C := C) (dx := dx) (on3 ho) (k _ _ hx) q
  | tup l => exact (four (by simp [Dt.ty])).elim
  | lst l => exact (four (by simp [Dt.ty])).elim
  | dct l =>
    obtain ⟨b, rfl, e⟩ := od
    obtain rfl : u = Value.ref b := r
    obtain ⟨_, ns, vs, kv, ob, es, ep, hb, hex, hd, _, prs, _⟩ := dk_of inv.hok e
    refine ⟨.inr (.inr rfl), fun A Q E s' k q => ?_⟩
    simp only [ops3, List.mem_cons, List.not_mem_nil, or_false] at ho
    rcases ho with rfl | rfl | rfl
    · rw [d1.1] at e1
      rw [d1.2] at e2
      exact (clash "dict" _ _ (noneD "__and__" (by simp)) (noneD "__rand__" (by simp)) e1 e2).elim
    · obtain ⟨cls, dd, data, sl⟩ := ob
      have hc := hex.1
      simp only at hc hd
      subst hc hd
      exact try_dict (C := C) (dx := dx) (k _ _ hb) (k _ _ hx) ((PySem.W.looks_subIn XK s3).keeps k) q
    · rw [d3.1] at e1
      rw [d3.2] at e2
      exact (clash "dict" _ _ (noneD "__xor__" (by simp)) (noneD "__rxor__" (by simp)) e1 e2).elim
theorem op_binR {CX : CXT} {E : XK} {C : Addr} {op : Operator} {ps : List Str} {sp : Sp} {n : Nat} (c : OwnBR X.prog X.w X.K X.mg X.base CX n C op ps sp) (room : Room n X.A) (pass : Passes CX X E) : OpR X (binaryOp op) (rBinR C sp E) := by
  obtain ⟨g, g2, fd, ho, c1, c2, c3, c4, s1, s2, s3, F, bind⟩ := c.ex
  intro pins st σ h x y v u Z inv rx ry pre
  obtain ⟨a, dx, fs, t, rfl, ha, od, z⟩ := pre
  obtain rfl : u = Value.ref a := ry
  obtain ⟨oo, J⟩ := inst_of inv ha
  obtain ⟨m, hF⟩ := inv.fr
  have ho5 : op ∈ ops5 := by
    simp only [ops3, ops5, List.mem_cons, List.not_mem_nil, or_false] at ho ⊢
    rcases ho with h | h | h <;> simp [h]
  obtain ⟨⟨fo, e1⟩, ro, e2⟩ := find5 X.K (ty_in t) ho5
  have dc := declines (P := X.prog) (w := X.w) ho inv inv.kIn od rx J s3 e1 e2
  refine bin_right hF inv.ok.mod.kin J (type_looks (od_type inv od rx)) c1 c2 c3 c4 e1 e2 rfl (fun y => ?_) (fun y => (dc y).2) ?_
  · rcases (dc y).1 with e | e | e <;> rw [e] <;> assumption
  refine wpAny_mono (run_fn (us := [.ref a, v]) (vs := [.ref a, x]) F room bind .nil pass inv (.cons rfl (.cons rx .nil)) z) (fun w s2 r => ?_) fun _ _ z => z
  obtain ⟨z', h2, inv2, rz, qz⟩ := r
  exact SlX.cmpback rz ⟨z', h2, inv2, rz, qz⟩
end
end KR

/-! KP: repr of a list of scalars and of own objects that have a __repr__ of their own. -/
namespace KP
open PySem PySem.Spec PyProof.Rows L2 KB KG KO KY
section
variable {prog : Program} {w : World} {A : Around} {E : Value → Shared → Prop} {s : Shared} {K : PySem.W.Frag} {x C L f : Addr} {hb : Heap} {m : Str → Option Value} {ox : Obj} {od : Option Obj}
open PySem.W in
theorem boundBy_K {M : Model} {last : Value → List Value → Sem Value} {name : Str} {Z : Option Value → Shared → Prop} (XK : K.In s.heap) (J : InstAt s.heap x ox C od) (c1 : findIn K (.ref C) name = some (some (.ref f))) (c2 : isFn K (.ref f) = true)
    (go : wpAny M A (last (.ref f) [.ref x]) (fun v => Z (some v)) E s) : wpAny M A (callSpecialIfBoundBy? last (.ref x) name) Z E s := by
  simp only [callSpecialIfBoundBy?, bindSpecialIfBound?]
  refine wpAny_holding (wpAny_bind (wpAny_bind (wpAny_bind (J.type.here ((looks_findIn XK c1).here ?_)))))
  refine wpAny_bind (wpAny_askSetting (wpAny_ite ?_))
  have last1 : wpAny M A (last (.ref f) [.ref x] >>= fun v => pure (some v)) Z E s := wpAny_bind (wpAny_mono go (fun _ _ y => wpAny_pure y) fun _ _ y => y)
  split
  · exact wpAny_bind ((bind_fn XK _ (beq_iff_eq.mp c2)).here (wpAny_pure (by exact last1)))
  · exact wpAny_tryCatch (wpAny_bind ((bind_fn XK _ (beq_iff_eq.mp c2)).here (wpAny_pure (by exact last1))))
open PySem.W in
theorem reprUnder_K {b : Nat} {Z : Str → Shared → Prop} (hz : b ≤ sizeLine) (hu : A.units < cLine) (XK : K.In s.heap) (J : InstAt s.heap x ox C od) (c1 : findIn K (.ref C) "__repr__" = some (some (.ref f))) (c2 : isFn K (.ref f) = true)
    (go : wpAny (model prog w) A (call (.ref f) [.ref x]) (fun v s' => ∃ t u, v = .str t u ∧ Z t s') E s) : wpAny (model prog w) A (pyReprUnder b (.ref x)) Z E s := by
  refine wpAny_pyReprUnder_ref hz ?_
  unfold pyReprObjUnder pyReprObjBy
  refine wpAny_bind (wpAny_cRoomFor hu ?_)
  refine wpAny_bind (wpAny_bind (J.type.here ((looks_findIn XK c1).here ?_)))
  show wpAny _ _ (if (some (Value.ref f)).isNone = true then _ else _) _ _ _
  rw [if_neg (by simp)]
  refine wpAny_bind (m := callSpecialIfBoundBy? _ (.ref x) (Str.ofString "__repr__")) (boundBy_K XK J c1 c2 ?_)
  refine wpAny_mono go (fun v s' y => ?_) fun _ _ y => y
  obtain ⟨t, u, rfl, q⟩ := y
  exact wpAny_bind (wpAny_isInstance (T := "str") (b := true) rfl isSubtype_str_str (wpAny_pure ⟨_, _, rfl, q⟩))
end
/-- an item and its text -/
def ItOk (P : Program) (w : World) (C : Addr) (sp : Sp) (H : Hp) (v : V) (t : Str) : Prop :=
  (∀ u, RelV v u → ReprIs P w u t) ∨ ∃ (a dx : Addr) (fs : List (Str × V)), v = .ref a ∧ H a = some (.ins C dx fs) ∧ ∀ H', Same H H' → ∀ Q : VK, Q (.str t) H' → sp [.ref a] H' Q E0
section
variable {X : Cx}
theorem frames_loop (A : Around) (args : Args) : (A.under (.builtin "list.__repr__.loop" args)).frames = A.frames ∧ (A.under (.builtin "list.__repr__.loop" args)).handled = A.handled ∧ (A.under (.builtin "list.__repr__.loop" args)).depth ≤ A.depth + 1 := by
  refine ⟨?_, ?_, ?_⟩ <;> first | rfl | simp [Around.under, Code.weight, Code.isCreation, Code.isGuard, Code.isCaller, Code.frames, Code.isFrame, guardIds]
theorem strs_done : ∀ (ts : List Str) (us : List Value), Vals (ts.map V.str) us → ∃ dn : List (Str × Tok), us = strValues dn ∧ dn.map (·.1) = ts
  | [], us, r => by cases r; exact ⟨[], rfl, rfl⟩
  | t :: ts, us, r => by
    cases r with
    | cons r1 r2 =>
      obtain ⟨tk, rfl⟩ := r1
      obtain ⟨dn, rfl, e⟩ := strs_done ts _ r2
      exact ⟨(t, tk) :: dn, rfl, by rw [List.map_cons, e]⟩
theorem vals_at : ∀ {xs : List V} {us : List Value}, Vals xs us → ∀ (i : Nat) (v : V), xs[i]? = some v → ∃ u, us[i]? = some u ∧ RelV v u
  | _, _, .nil, i, v, e => by simp at e
  | _, _, .cons r1 r2, 0, v, e => ⟨_, rfl, by cases e; exact r1⟩
  | _, _, .cons r1 r2, i + 1, v, e => vals_at r2 i v e
theorem loop {C : Addr} {sp : Sp} {ps : List Str} {n : Nat} (c : OwnM X.prog X.w X.K X.mg X.base n C "__repr__" ps sp) {A : Around} (hfr : A.frames = X.A.frames) (hh : A.handled = none) (hd : A.depth + 1 + 3 * n + 5 < recursionLimit) (hu : A.units + 1 + 16 * n + 200 < cLine)
    {p P : Addr} {vs : List V} {ts : List Str} {H0 : Hp} (len : ts.length = vs.length) (sz : (listText ts).length ≤ sizeLine) (its : ∀ (i : Nat) (v : V) (t : Str), vs[i]? = some v → ts[i]? = some t → ItOk X.prog X.w C sp H0 v t) (nP : H0 P = none) (hp : H0 p = some (.lst vs)) {pins : List (Addr × Obj)} {σ : L2.St} {R : Result → Shared → Prop}
    (last : ∀ H' s' u, Same H0 H' → Inv X pins σ H' s' → R (.ok (.ret (.str (listText ts) u))) s') :
    ∀ (k i : Nat) (s : Shared) (H : Hp), vs.length - i = k → i ≤ vs.length → Same H0 H → Inv X pins σ H s → H P = some (.lst ((ts.take i).map V.str)) →
      codeAny (model X.prog X.w) A (.builtin "list.__repr__.loop" ⟨[.ref p, rawInt i, .ref P, rawInt ((piled (ts.take i) : Nat) : Int)], []⟩) R s := by
  obtain ⟨g, fd, hs, hf, F, bind⟩ := c.ex
  have tl := textFrom_len ts 0 "["
  have sl : (listText ts).length = (textFrom 0 "[" ts).length + 1 := by
    show (textFrom 0 "[" ts ++ "]").length = _
    rw [strLen_append]; rfl
  have s2 : ∀ t ∈ ts, t.length ≤ sizeLine := fun t ht => by
    have := tl.2.1 t ht
    omega
  have pl := piled_le_listText ts
  intro k
  induction k with
  | zero =>
    intro i s H hk hi sm inv eP
    have hin : i = vs.length := by omega
    obtain ⟨us, rv, ⟨ob, nb, ho, hc, _, hdt⟩, _⟩ := inv.list (SqL.of (sm _ _ hp))
    obtain ⟨z2, us2, n2, r2, l2, e2⟩ := inv.lstM eP
    have lu := rv.length
    refine codeAny_builtin PySem.F.entry_list_repr_loop ?_
    show wpAny _ _ (Builtin.«list.__repr__.loop» ⟨[.ref p, .int i 0, .ref P, .int ((piled (ts.take i) : Nat) : Int) 0], []⟩) _ _ s
    rw [repr_loop_tree]
    refine wpAny_bind (wpAny_listItems ho hdt ?_)
    have hno : us.toArray[(i : Int).toNat]? = none := by simp [hin, lu]
    simp only [hno]
    unfold reprEnd
    refine wpAny_bind (wpAny_listItems e2 rfl ?_)
    rw [hin, ← len, List.take_length] at r2
    obtain ⟨dn, rfl, ed⟩ := strs_done ts us2 r2
    rw [repr_fold, ed]
    refine wpAny_bind (wpAny_pure ?_)
    refine wpAny_bind (wpAny_mkStr (wpAny_pure ?_) sz)
    exact last H _ _ sm (inv.tok _)
  | succ k ih =>
    intro i s H hk hi sm inv eP
    have hlt : i < vs.length := by omega
    obtain ⟨us, rv, ⟨ob, nb, ho, hc, _, hdt⟩, _⟩ := inv.list (SqL.of (sm _ _ hp))
    have lu := rv.length
    have ev : vs[i]? = some vs[i] := List.getElem?_eq_getElem hlt
    have et : ts[i]? = some (ts[i]'(by omega)) := List.getElem?_eq_getElem (by omega)
    obtain ⟨u, eu, ru⟩ := vals_at rv i _ ev
    have it := its i _ _ ev et
    generalize ts[i]'(by omega) = t at et it
    generalize vs[i] = v at ev ru it
    have p1 := piled_take_succ et
    have p2 := piled_take_le ts (i + 1)
    refine codeAny_builtin PySem.F.entry_list_repr_loop ?_
    show wpAny _ _ (Builtin.«list.__repr__.loop» ⟨[.ref p, .int i 0, .ref P, .int ((piled (ts.take i) : Nat) : Int) 0], []⟩) _ _ s
    rw [repr_loop_tree]
    refine wpAny_bind (wpAny_listItems ho hdt ?_)
    have hso : us.toArray[(i : Int).toNat]? = some u := by simpa using eu
    simp only [hso]
    rw [Int.toNat_natCast]
    have rest : ∀ s', Inv X pins σ H s' → wpAny (model X.prog X.w) (A.under (.builtin "list.__repr__.loop" ⟨[.ref p, rawInt i, .ref P, rawInt ((piled (ts.take i) : Nat) : Int)], []⟩)) (do
        let r ← mkStr t
        Builtin.List.listUpdate (.ref P) (·.push r)
        again (.builtin "list.__repr__.loop" ⟨[.ref p, rawInt (i + 1), .ref P, rawInt ((piled (ts.take i) + (t.length + 2) : Nat) : Int)], []⟩))
        (fun fin s' => match fin with | .done f => R (.ok f) s' | .again c' => c'.quiet = true ∧ codeAny (model X.prog X.w) A c' R s') (fun e s' => R (.error e) s') s' := by
      intro s' inv'
      obtain ⟨z2, us2, n2, r2, l2, e2⟩ := inv'.lstM eP
      have l3 := r2.length
      have l4 : ((ts.take i).map V.str).length ≤ i := by simp; omega
      have l5 : i < sizeLine := by
        have := tl.1
        rw [if_neg (Nat.lt_irrefl 0)] at this
        omega
      refine wpAny_bind (wpAny_mkStr ?_ (s2 t (List.mem_of_getElem? et)))
      refine wpAny_bind ?_
      show wpAny _ _ (updateSeq P _) _ _ _
      refine wpAny_updateSeq e2 rfl (wpAny_pure ⟨PySem.F.quiet_list_repr_loop _, ?_⟩) (by rw [List.size_toArray]; omega)
      have a1 : ((i : Int) + 1) = ((i + 1 : Nat) : Int) := by omega
      have a2 : piled (ts.take i) + (t.length + 2) = piled (ts.take (i + 1)) := by omega
      rw [a1, a2]
      refine ih (i + 1) _ (upd H P (.lst ((ts.take (i + 1)).map V.str))) (by omega) hlt (same_mut sm nP) ?_ upd_same
      refine inv'.lset (its' := us2 ++ [.str t s'.toks]) eP e2 (by simp) ?_ (by simp; omega)
      rw [List.take_add_one, et, List.map_append]
      exact r2.append (.cons ⟨_, rfl⟩ .nil)
    rcases it with it | ⟨a, dx, fs, rfl, ha, it⟩
    · refine wpAny_bind (wpAny_holding (it u ru (piled (ts.take i) + 1) (by omega) _ _ _ _ fun tk => ?_))
      exact rest _ (inv.tok _)
    · obtain rfl : u = Value.ref a := ru
      obtain ⟨oo, J⟩ := inst_of inv (sm _ _ ha)
      have fl := frames_loop A ⟨[.ref p, rawInt i, .ref P, rawInt ((piled (ts.take i) : Nat) : Int)], []⟩
      have ul := units_under_list_loop A ⟨[.ref p, rawInt i, .ref P, rawInt ((piled (ts.take i) : Nat) : Int)], []⟩
      refine wpAny_bind (wpAny_holding (reprUnder_K (by omega) (by rw [ul]; omega) inv.kIn J hs hf ?_))
      have e0 := inv.env0
      refine wpAny_mono (run0 (E' := fun e s' => R (.error e) s') (xs := [.ref a]) F ⟨by rw [fl.2.1]; exact hh, by have := fl.2.2; omega, by rw [ul]; omega⟩ ⟨by rw [fl.1, hfr]; exact e0.frames, e0.mod, e0.bs, e0.bsz, e0.funs, e0.frf, e0.hok, e0.bare⟩ bind inv (.cons rfl .nil) (it H sm (fun v' H' => v' = .str t ∧ H' = H) ⟨rfl, rfl⟩)) (fun v' st y => ?_) fun _ _ y => y
      obtain ⟨w', H', inv2, rw', e1, e2⟩ := y
      subst e1 e2
      obtain ⟨tk, rfl⟩ := (show ∃ tk, v' = Value.str t tk from rw')
      exact ⟨t, tk, rfl, rest _ inv2⟩
def rReprL (P : Program) (w : World) (C : Addr) (sp : Sp) : List V → Hp → VK → Prop := fun xs H Q => ∃ (p : Addr) (vs : List V) (ts : List Str), xs = [.ref p] ∧ H p = some (.lst vs) ∧ vs ≠ [] ∧ ts.length = vs.length ∧ (listText ts).length ≤ sizeLine ∧
  (∀ (i : Nat) (v : V) (t : Str), vs[i]? = some v → ts[i]? = some t → ItOk P w C sp H v t) ∧ ∀ H', Same H H' → Q (.str (listText ts)) H'
theorem call_reprL {C : Addr} {sp : Sp} {ps : List Str} {n : Nat} (c : OwnM X.prog X.w X.K X.mg X.base n C "__repr__" ps sp) (fr : Free X.A) (room : Room (n + 1) X.A) : CallR X (.builtin "repr") (rReprL X.prog X.w C sp) := by
  intro pins st σ h xs us Z inv rel pre
  obtain ⟨p, vs, ts, rfl, hp, ne, len, sz, its, z⟩ := pre
  obtain ⟨u, rfl, rv⟩ := vals_one rel
  obtain rfl : u = Value.ref p := rv
  obtain ⟨us, rl, ⟨ob, nb, ho, hc, hsl, hd⟩, _⟩ := inv.list (SqL.of hp)
  have ty : st.TypeIs (.ref p) "list" := ⟨_, ho, hc⟩
  have un := room.un
  have dp := room.dp
  refine KG.repr_slot (by omega) ty PySem.F.slot_list_repr.toG ?_
  refine wpAny_callSpecialIfBound?_slot (name := Str.ofString "__repr__") ty PySem.F.slot_list_repr ?_
  cases us with
  | nil =>
    cases rl
    exact absurd rfl ne
  | cons u1 us =>
    refine wpAny_call (codeAny_call_builtin PySem.F.slot_list_repr.plain PySem.F.entry_list_repr (PySem.F.slot_list_repr.check _ _ _ _ _ _ _ _ ty (PySem.F.args_list_repr_1 _) ?_))
    refine wpAny_list_repr_head (A := X.A.in1.in1) (g := []) fr (fun v rest kw m => absurd m List.not_mem_nil) ho hd ?_
    refine wpAny_bind (m := newList []) (wpAny_newObj_type ?_)
    refine wpAny_pure ⟨PySem.F.quiet_list_repr_loop _, ?_⟩
    have fresh : h st.heap.objs.size = none := inv.hok.fresh (Nat.le_refl _)
    refine loop c (A := X.A.in1) (pins := pins) (σ := σ) rfl room.hd (show X.A.depth + 1 + 3 * n + 5 < _ by omega) (show X.A.units + 1 + 1 + 16 * n + 200 < _ by omega) (P := st.heap.objs.size) len sz its fresh hp (fun H' s' u sm inv' => ?_) _ 0 _ (upd h st.heap.objs.size (.lst [])) rfl (Nat.zero_le _) (same_new fresh) ?_ upd_same
    · exact ⟨_, _, rfl, .str (listText ts), H', inv', ⟨u, rfl⟩, z H' sm⟩
    · exact inv.lnew (its := []) .nil (Nat.zero_le _)
/-- one of two ways -/
theorem call_or {f : Value} {r1 r2 : List V → Hp → VK → Prop} (c1 : CallR X f r1) (c2 : CallR X f r2) : CallR X f (fun xs H Q => r1 xs H Q ∨ r2 xs H Q) := by
  intro pins st σ h xs us Z inv rel pre
  rcases pre with pre | pre
  · exact c1 pins st σ h xs us Z inv rel pre
  · exact c2 pins st σ h xs us Z inv rel pre
end
end KP
/-! ### classmethods; cls(..) -/
namespace KP
open PySem PySem.Spec PyProof.Rows L2 KB KG KO KY
section
variable {X : Cx}
structure CalleeC (P : Program) (w : World) (K : PySem.W.Frag) (mg : Str → Option Value) (base : Heap) (CX : CXT) (k : Nat) (C : Addr) (m : Str) (sp : Sp) : Prop where
  ex : ∃ (mc : Value) (p g : Addr), ClX.CRead K C mc ∧ ClX.CMet K C mc m p g ∧ FnR P w K mg base CX k g sp
theorem pe_cmethC {pl : Sem Bool} {CX : CXT} {k : Nat} {C : Addr} {m : Str} {sp : Sp} {E : XK} {o e : Expr} {es : List Expr} {apos pos : Pos} {ta : TE} {t : TA} (c : CalleeC X.prog X.w X.K X.mg X.base CX k C m sp) (ho : PE X o ta) (room : Room k X.A) (pass : Passes CX X E) (ha : PA X (e :: es) t)
    (d1 : starEach (e :: es) X.env = (false, eval e X.env) :: starEach es X.env := by rfl) (d2 : (backTo pos (starEach es X.env)).any (·.1) = false := by rfl)
    (d3 : eval (.Call (.Attribute o m apos) (e :: es) [] pos) X.env = (do
      let ov ← eval o X.env
      standAt apos.atName
      let (f, first) ← holding [ov] (getMethod ov m pl)
      callWith pos f first (backTo pos (starEach (e :: es) X.env)) (backToKw pos (keywordEach [] X.env))) := by rfl) :
    PE X (.Call (.Attribute o m apos) (e :: es) [] pos) (ClX.tCMeth C sp E ta t) := by
  obtain ⟨mc, p, g, r, cm, F⟩ := c.ex
  exact ClX.pe_cmeth ho r cm F room pass ha d1 d2 d3
def tMakeL (C : Addr) (sp : Sp) (E : XK) (tf : TE) (t : TA) : TE := fun σ H Q => tf σ H fun v H1 => v = .ref C ∧ tMake C sp [] E t σ H1 Q
theorem pe_makeL {CX : CXT} {k : Nat} {C : Addr} {x y : Str} {ps : List Str} {sp : Sp} {E : XK} {e : Expr} {es : List Expr} {p pos : Pos} {tf : TE} {t : TA} (c : CalleeI X.prog X.w X.K X.mg X.base CX k C y ps sp) (room : Room (k + 1) X.A) (pass : Passes CX X E) (hn : PE X (.Name x p) tf) (ha : PA X (e :: es) t)
    (d1 : starEach (e :: es) X.env = (false, eval e X.env) :: starEach es X.env := by rfl) (d2 : (backTo pos (starEach es X.env)).any (·.1) = false := by rfl) :
    PE X (.Call (.Name x p) (e :: es) [] pos) (tMakeL C sp E tf t) := by
  obtain ⟨f, fd, F, M, hm, hb⟩ := c.ex
  refine ⟨fun pins s σ H Q I h => wpAny_Call_Name_kw (thn (hn.run pins s σ H _ I h) fun u s1 r => ?_)⟩
  obtain ⟨v, H1, I1, rv, rfl, z⟩ := r
  obtain rfl : u = Value.ref C := rv
  refine PySem.W.callWith_K (h₀ := X.base) I1.ok.mod.kin M.kp (thn (ha.run pos pins s1 σ H1 _ I1 z) fun us s2 y => ?_) d1 d2
  obtain ⟨vs, H2, I2, r2, q2⟩ := y
  exact ⟨I2.kIn, run_make M F room hb .nil pass I2 r2 q2⟩
end
theorem r_cmeth {σ : L2.St} {H : Hp} {Q : VK} {C : Addr} {sp : Sp} {E : XK} {ta : TE} {t : TA} (q : ta σ H fun x H1 => x = .ref C ∧ t σ H1 fun vs H2 => sp (.ref C :: vs) H2 Q E) : ClX.tCMeth C sp E ta t σ H Q := q
theorem r_makeL {σ : L2.St} {H : Hp} {Q : VK} {C : Addr} {sp : Sp} {E : XK} {tf : TE} {t : TA} (q : tf σ H fun v H1 => v = .ref C ∧ tMake C sp [] E t σ H1 Q) : tMakeL C sp E tf t σ H Q := q
end KP

/-! KS: lists of texts compared; small helpers. -/
namespace KS
open PySem PySem.Spec PyProof.Rows L2 KB KG KO KY
theorem dp_strs {K : PySem.W.Frag} {H : Hp} : ∀ zs : List Str, DpAll K H (zs.map V.str) (zs.map PyData.str)
  | [] => .nil
  | z :: r => .cons (.str z) (dp_strs r)
theorem lay_strs : ∀ zs : List Str, (∀ z ∈ zs, PyData.strOk z = true) → PyData.canLayAll0 (zs.map PyData.str) = true
  | [], _ => rfl
  | n :: r, h => by
    show (PyData.canLay0 (.str n) && PyData.canLayAll0 (r.map PyData.str)) = true
    rw [lay_strs r fun z m => h z (List.mem_cons_of_mem _ m)]
    simp [PyData.canLay0, h n (List.mem_cons_self ..)]
theorem depth_strs : ∀ zs : List Str, PyData.depthAll (zs.map PyData.str) = 0
  | [] => rfl
  | n :: r => by
    show max (PyData.depth (.str n)) (PyData.depthAll (r.map PyData.str)) = 0
    rw [depth_strs r]; rfl
theorem shaped_strs {zs : List Str} (h : ∀ z ∈ zs, PyData.strOk z = true) : SeqAt.shaped (.list (zs.map PyData.str)) = true := by
  show (PyData.canLayAll0 (zs.map PyData.str) && decide (PyData.depthAll (zs.map PyData.str) + 1 ≤ 64)) = true
  rw [lay_strs zs h, depth_strs]; rfl
theorem eqv_strs : ∀ ns ms : List Str, PyData.eqvAll (ns.map PyData.str) (ms.map PyData.str) = decide (ns = ms)
  | [], [] => rfl
  | [], _ :: _ => rfl
  | _ :: _, [] => rfl
  | n :: r, m :: q => by
    show (PyData.eqv (.str n) (.str m) && PyData.eqvAll (r.map PyData.str) (q.map PyData.str)) = decide (n :: r = m :: q)
    rw [eqv_strs r q]
    have e : PyData.eqv (.str n) (.str m) = decide (n = m) := by
      simp only [PyData.eqv]
      by_cases h : n = m <;> simp [h]
    rw [e]
    by_cases h1 : n = m <;> by_cases h2 : r = q <;> simp [h1, h2]
theorem r_eqStrs {K : PySem.W.Frag} {H : Hp} {Q : VK} {a b : Addr} {ns ms : List Str} (h : SqL K H a (ns.map V.str)) (h' : SqL K H b (ms.map V.str)) (o1 : ∀ z ∈ ns, PyData.strOk z = true) (o2 : ∀ z ∈ ms, PyData.strOk z = true) (q : Q (.bl (decide (ns = ms))) H) : rEqD K (.ref a) (.ref b) H Q :=
  ⟨_, _, .lst h (dp_strs ns), .lst h' (dp_strs ms), shaped_strs o1, shaped_strs o2, (show Q (.bl (PyData.eqvAll (ns.map PyData.str) (ms.map PyData.str))) H by rw [eqv_strs]; exact q)⟩
theorem r_neStrs {K : PySem.W.Frag} {H : Hp} {Q : VK} {a b : Addr} {ns ms : List Str} (h : SqL K H a (ns.map V.str)) (h' : SqL K H b (ms.map V.str)) (o1 : ∀ z ∈ ns, PyData.strOk z = true) (o2 : ∀ z ∈ ms, PyData.strOk z = true) (q : Q (.bl (!decide (ns = ms))) H) : rNeD K (.ref a) (.ref b) H Q :=
  ⟨_, _, .lst h (dp_strs ns), .lst h' (dp_strs ms), shaped_strs o1, shaped_strs o2, (show Q (.bl (!PyData.eqvAll (ns.map PyData.str) (ms.map PyData.str))) H by rw [eqv_strs]; exact q)⟩
theorem r_sls {H : Hp} {Q : VK} {z : Str} {lo hi : Option Int} (h : z.length ≤ sizeLine) (q : Q (.str (cutS z lo hi)) H) : rSlS (.str z) lo hi H Q := ⟨z, rfl, h, q⟩
theorem rep_map {n : Nat} (z : Str) : (List.replicate ((n : Nat) : Int).toNat [V.str z]).flatten = (List.replicate n z).map V.str := by
  rw [Int.toNat_natCast]
  induction n with
  | zero => rfl
  | succ n ih => rw [List.replicate_succ, List.flatten_cons, ih, List.replicate_succ]; rfl
theorem all_rep {zs : List Str} {z : Str} (h : ∀ y ∈ zs, y = z) : zs = List.replicate zs.length z := List.eq_replicate_of_mem h
/-! ### repr of a value of a kind -/
section
variable {X : Cx}
def rReprOd : List V → Hp → VK → Prop := fun xs H Q => ∃ (v : V) (t : Dt), xs = [v] ∧ OdAt H v t ∧ t.d.showable = true ∧ t.d.depth ≤ 60 ∧ t.d.shown.length ≤ sizeLine ∧ Q (.str t.d.shown) H
theorem call_reprOd {k : Nat} (fr : Free X.A) (room : Room k X.A) : CallR X (.builtin "repr") rReprOd := by
  intro pins st σ h xs us Z inv rel pre
  obtain ⟨v, t, rfl, od, ok, deep, sz, z⟩ := pre
  obtain ⟨u, rfl, rv⟩ := vals_one rel
  obtain ⟨as, rd, ns⟩ := od_reads inv od rv
  by_cases nod : t.d.hasDict = false
  · exact KG.repr_data rd ok nod sz fr (by have := room.un; omega) fun h' t1 tk kp => ⟨.str t.d.shown, h, inv.kept kp, ⟨t1, rfl⟩, z⟩
  · cases t with
    | dct l =>
      obtain ⟨a, rfl, e⟩ := id od
      obtain rfl : u = Value.ref a := rv
      exact repr_of_reads' rd ok ns fr (by have := room.un; omega) (fun _ _ e => e) (fun h' t1 tk kp => ⟨.str _, h, inv.kept kp, ⟨t1, rfl⟩, z⟩) sz
    | sc s => exact absurd (noD_sc s) nod
    | tup l => exact absurd (show PyData.hasDictAll _ = false from noD_scs l) nod
    | lst l => exact absurd (show PyData.hasDictAll _ = false from noD_scs l) nod
end
end KS

/-! KT: sets of ints made of lists; enumerate over texts and tuples; keywords at own objects and classmethods. -/
namespace KT
open PySem PySem.Spec PyProof.Rows L2 KB KG KO KY
/-! ### set(l) of a list of ints -/
def freshSet (w : World) : Obj := { cls := .type "set", dict := none, data := .set #[] 0 (.fresh 0 0 (!w.params.followText "set-order")) }
section
variable {P : Program} {w : World} {A : Around} {E : Value → Shared → Prop} {s : Shared}
theorem set_ofL {l : Addr} {items : Array Value} (ns : List Int) {Z : Value → Shared → Prop} (calm : A.handled = none) (isL : s.heap.IsList l items) (allI : IntsAre items.toList ns) (few : ns.length + 1 < scanBound)
    (fin : ∀ (h' : Heap) (tk c : Nat), SetR w h' s.heap.objs.size (fun j => decide (j ∈ ns)) c → c ≤ ns.length → (∀ b o, s.heap.get? b = some o → h'.get? b = some o) → Z (.ref s.heap.objs.size) { s with heap := h', toks := tk }) :
    wpAny (model P w) A (call (.type "set") [.ref l]) Z E s := by
  have size : items.size = ns.length := (Array.length_toList ▸ allI.length : items.size = ns.length)
  obtain ⟨c0, tl0, mro0⟩ := F.called_set.mro
  have made0 := F.called_set.made
  have sub0 := F.called_set.sub
  refine wpAny_call (codeAny_of_tree ?_)
  show wpAny _ _ (callAny (.type "set") _) _ _ _
  refine wpAny_pure ⟨Code.quiet_builtin _ (by decide +kernel), codeAny_builtin F.entry_type_call ?_⟩
  rw [Around.under_plain (weight_type_call_type "set" [.ref l] []) rfl]
  have nt0 := F.called_set.notType
  have cc0 := F.called_set.canCreate
  have tc0 := F.typeCall_set_1 (.ref l)
  repeat (any_goals (first | assumption | wp_step))
  refine codeAny_mono (code_set_led1 (.ref l) (E := E) (Q₁ := fun ob s1 => ob = .ref s.heap.objs.size ∧ s1 = { s with heap := s.heap.push (freshSet w) }) ⟨rfl, rfl⟩) fun res s1 hres => ?_
  match res, hres with
  | .error e, hres => exact hres
  | .ok .next, hres => exact hres.elim
  | .ok .brk, hres => exact hres.elim
  | .ok .cont, hres => exact hres.elim
  | .ok (.ret ob), hres =>
    obtain ⟨rfl, rfl⟩ := hres
    have atS : (s.heap.push (freshSet w)).get? s.heap.objs.size = some (freshSet w) := Heap.get?_push_size _ rfl
    have tyS : Shared.TypeIs { s with heap := s.heap.push (freshSet w) } (.ref s.heap.objs.size) "set" := ⟨_, atS, rfl⟩
    have li0 := F.called_set.init.lookup
    have bi0 := F.called_set.init.bind (.ref s.heap.objs.size)
    repeat (any_goals (first | assumption | wp_step))
    refine codeAny_mono (codeAny_call_builtin (R := wants (fun u s2 => u = .none ∧ ∃ h' tk c, s2 = { s with heap := h', toks := tk } ∧ SetR w h' s.heap.objs.size (fun j => decide (j ∈ ns)) c ∧ c ≤ ns.length ∧ ∀ b o, s.heap.get? b = some o → h'.get? b = some o) E) F.called_set.init.plain F.entry_set_init (check_set_init_1 tyS ?_)) fun res2 s2 hres2 => ?_
    · obtain ⟨⟨lc, ld, lda, lsl⟩, lat, lcl, ln, ldd⟩ := isL
      simp only at lcl ldd
      subst lcl ldd
      have lat2 : (s.heap.push (freshSet w)).get? l = some { cls := .type "list", dict := ld, data := .seq items ln, slots := lsl } := Heap.get?_push_of_some _ lat
      have sls := F.sub_list_set
      have slf := F.sub_list_frozenset
      have lnd : (Value.type "list" == Value.type "dict") = false := by decide
      have isL2 : (s.heap.push (freshSet w)).IsList l items := ⟨_, lat2, rfl, ln, rfl⟩
      unfold Builtin.«set.__init__» noKeywords Builtin.Frozenset.updateFrom
      generalize hPI : pyIter = PI
      wp_walk
      subst hPI
      refine wpAny_pyIter_list isL2 ?_
      refine wpAny_bind (wpAny_runValue ?_)
      have lt0 : l < s.heap.objs.size := Heap.lt_size lat
      have calm3 : A.in1.in1.in1.handled = none := by simp [calm]
      have sz1 : (s.heap.push (freshSet w)).objs.size = s.heap.objs.size + 1 := Heap.size_push ..
      have ne1 : l ≠ (s.heap.push (freshSet w)).objs.size := by rw [sz1]; exact Nat.ne_of_lt (Nat.lt_succ_of_lt lt0)
      have off1 : s.heap.objs.size ∉ [(s.heap.push (freshSet w)).objs.size, l] := by
        rw [sz1]
        simp only [List.mem_cons, List.not_mem_nil, or_false, not_or]
        exact ⟨Nat.ne_of_lt (Nat.lt_succ_self _), Nat.ne_of_gt lt0⟩
      have vals1 : ∀ (i : Nat) (v : Value), items[i]? = some v → ∃ k t, ns[i]? = some k ∧ v = .int k t := fun i v hv => by
        have hi : i < ns.length := size ▸ (Array.getElem?_eq_some_iff.mp hv).1
        obtain ⟨t, e⟩ := PyProof.Rows.IntsAre.int_at allI i v ((Array.getElem?_toList ..).trans hv)
        refine ⟨ns[i], t, List.getElem?_eq_getElem hi, e.trans ?_⟩
        rw [List.getD_eq_getElem?_getD, List.getElem?_eq_getElem hi]
        rfl
      refine set_update_ints ((Walks.list calm3 _ l ne1 items).toS) s.heap.objs.size off1 ns size few vals1 (items.size - 0) 0 _ (by omega) (Nat.zero_le _) ⟨⟨_, Heap.get?_push_size _ rfl, rfl, rfl⟩, isL2.at fun o e => Heap.get?_push_of_some _ e⟩ ?S0 ?SR
      case S0 => exact ⟨0, Nat.le_refl 0, setR_new_at (Heap.get?_push_of_some _ atS)⟩
      case SR =>
        intro s3 c3 mv le3 R3
        obtain ⟨h3, g3, d3, tk3, os3⟩ := s3
        obtain rfl : g3 = s.gens := mv.gens
        obtain rfl : d3 = s.drawn := mv.drawn
        obtain rfl : os3 = s.os := mv.os
        show wpAny _ _ _ _ _ _
        refine wpAny_pure ?_
        show wpAny _ _ (ret Value.none) _ _ _
        refine wpAny_pure ⟨rfl, h3, tk3, c3, rfl, R3, size ▸ le3, fun b o e => ?_⟩
        have lb : b < s.heap.objs.size := Heap.lt_size e
        refine mv.heap b o ?_ (Heap.get?_push_of_some _ (Heap.get?_push_of_some _ e))
        simp only [List.mem_cons, List.not_mem_nil, or_false, not_or]
        exact ⟨Nat.ne_of_lt lb, fun z => absurd (z.trans sz1) (Nat.ne_of_lt (Nat.lt_succ_of_lt lb))⟩
    · match res2, hres2 with
      | .error e, hres2 => exact hres2
      | .ok .next, hres2 => exact hres2.elim
      | .ok .brk, hres2 => exact hres2.elim
      | .ok .cont, hres2 => exact hres2.elim
      | .ok (.ret u), hres2 =>
        obtain ⟨rfl, h3, tk3, c3, rfl, R3, le3, kp3⟩ := hres2
        repeat (any_goals (first | assumption | wp_step))
        exact fin _ _ _ R3 le3 kp3
end
section
variable {X : Cx}
def rSetOfI (K : PySem.W.Frag) (w : World) : List V → Hp → VK → Prop := fun xs H Q => ∃ (l : Addr) (ns : List Int), xs = [.ref l] ∧ (SqL K H l (ns.map V.int) ∨ SqT K H l (ns.map V.int)) ∧ ns.length ≤ 1000 ∧ ∀ p n, H p = none → n ≤ ns.length → Q (.ref p) (upd H p (SetO w p (fun j => decide (j ∈ ns)) n))
theorem cr_setOfI (calm : X.calm = true) : CallR X (.type "set") (rSetOfI X.K X.w) := by
  intro pins st σ h xs us Z inv rel pre
  obtain ⟨l, ns, rfl, sq, few, q⟩ := pre
  obtain ⟨u, rfl, rv⟩ := vals_one rel
  obtain rfl : u = Value.ref l := rv
  have hd := inv.ok.hd calm
  have fin : ∀ (h' : Heap) (tk c : Nat), SetR X.w h' st.heap.objs.size (fun j => decide (j ∈ ns)) c → c ≤ ns.length → (∀ b o, st.heap.get? b = some o → h'.get? b = some o) → EP X pins σ Z (.ref st.heap.objs.size) { st with heap := h', toks := tk } := fun h' tk c R le kp =>
    ⟨.ref _, upd h st.heap.objs.size (SetO X.w st.heap.objs.size (fun j => decide (j ∈ ns)) c), inv.laid (t' := tk) kp (Nat.le_refl _) (setO_new R), rfl, q _ c (inv.hok.fresh (Nat.le_refl _)) le⟩
  rcases sq with sq | sq
  · obtain ⟨its, r, pl, _⟩ := inv.list sq
    exact set_ofL ns hd pl.isList (by simpa using RZ.intsAre_vals r) (by unfold scanBound; omega) fin
  · obtain ⟨its, r, pt, _⟩ := inv.tuple sq
    exact call_set_tupI ns hd (show st.heap.IsTuple l its.toArray from pt) (by simpa using RZ.intsAre_vals r) (by unfold scanBound; omega) fin
/-- the ints of a list, each once, ascending -/
theorem sorted_unique {a b : List Int} (ha : a.Pairwise (· < ·)) (hb : b.Pairwise (· < ·)) (h : ∀ k, k ∈ a ↔ k ∈ b) : a = b := by
  induction a generalizing b with
  | nil =>
    cases b with
    | nil => rfl
    | cons y b => exact absurd ((h y).mpr (List.mem_cons_self ..)) List.not_mem_nil
  | cons x a ih =>
    cases b with
    | nil => exact absurd ((h x).mp (List.mem_cons_self ..)) List.not_mem_nil
    | cons y b =>
      have hx := List.pairwise_cons.mp ha
      have hy := List.pairwise_cons.mp hb
      have e : x = y := by
        rcases List.mem_cons.mp ((h x).mp (List.mem_cons_self ..)) with e | m
        · exact e
        · rcases List.mem_cons.mp ((h y).mpr (List.mem_cons_self ..)) with e | m2
          · exact e.symm
          · have := hy.1 x m; have := hx.1 y m2; omega
      subst e
      congr 1
      refine ih hx.2 hy.2 fun k => ?_
      constructor
      · intro m
        rcases List.mem_cons.mp ((h k).mp (List.mem_cons_of_mem _ m)) with e | m2
        · have := hx.1 k m; omega
        · exact m2
      · intro m
        rcases List.mem_cons.mp ((h k).mpr (List.mem_cons_of_mem _ m)) with e | m2
        · have := hy.1 k m; omega
        · exact m2
end
/-! ### enumerate over a text, over a tuple -/
def ItES (z : Str) : It := ⟨fun i _ => i < z.cps.size, fun i H v H' => ∃ T c, v = .ref T ∧ H T = none ∧ H' = upd H T (.tup [.int (i : Nat), .str ⟨#[c]⟩]) ∧ z.cps[i]? = some c, fun i _ => i = z.cps.size⟩
def ItET (K : PySem.W.Frag) (a : Addr) : It :=
  ⟨fun i H => ∃ (xs : List V) (x : V), SqT K H a xs ∧ xs[i]? = some x, fun i H v H' => ∃ T x, v = .ref T ∧ H T = none ∧ H' = upd H T (.tup [.int (i : Nat), x]) ∧ ∀ xs, SqT K H a xs → xs[i]? = some x, fun i H => ∃ xs : List V, SqT K H a xs ∧ xs.length = i⟩
section
variable {P : Program} {w : World} {K : PySem.W.Frag}
theorem two_obj {h : Heap} {e it : Addr} {oe oi : Obj} (h1 : h.get? e = some oe) (h2 : h.get? it = some oi) (n1 : ∀ v, oe.data ≠ .cell v) (n2 : ∀ v, oi.data ≠ .cell v) : ∀ b ∈ [e, it], ∃ o, h.get? b = some o ∧ ∀ v, o.data ≠ .cell v := fun b hb => by
  rcases List.mem_cons.mp hb with rfl | hb
  · exact ⟨_, h1, n1⟩
  · rw [List.mem_singleton.mp hb]; exact ⟨_, h2, n2⟩
/-- a new pair has come -/
theorem pair_new {X : Cx} {pins : List (Addr × Obj)} {σ : L2.St} {H : Hp} {s : Shared} {e it : Addr} {x : V} {u : Value} {i tk : Nat} {h1 h2 : Heap} (I : Inv X pins σ H s) (fp : ∀ b ∈ [e, it], FpOk X pins H b) (le : e < s.heap.objs.size) (li : it < s.heap.objs.size) (ru : RelV x u)
    (pr : h1.get? s.heap.objs.size = some { cls := .type "tuple", data := .seq #[.int i tk, u] }) (kp : ∀ b o, b ≠ e → b ≠ it → s.heap.get? b = some o → h1.get? b = some o) (sb : Heap.SameBut e h1 h2) :
    Inv X pins σ (upd H s.heap.objs.size (.tup [.int (i : Nat), x])) { s with heap := h2, toks := tk + 1 } ∧ H s.heap.objs.size = none ∧ ∀ b ∈ [e, it], upd H s.heap.objs.size (.tup [.int (i : Nat), x]) b = none := by
  have pr2 := (sb.2 _ (Nat.ne_of_gt le)).trans pr
  have ok : ObjOk X.prog X.w (upd H s.heap.objs.size (.tup [.int (i : Nat), x])) h2 s.heap.objs.size (.tup [.int (i : Nat), x]) := ⟨(by show 2 ≤ sizeLine; decide), [.int i tk, u], .cons ⟨_, rfl⟩ (.cons ru .nil), ⟨_, pr2, rfl, _, rfl⟩⟩
  refine ⟨I.turnedNew (ch := [e, it]) (fun b ob hb q => (sb.2 b (fun z => hb (by simp [z]))).trans (kp b ob (fun z => hb (by simp [z])) (fun z => hb (by simp [z])) q)) fp (Nat.le_refl _) ok, I.hok.fresh (Nat.le_refl _), fun b hb => ?_⟩
  have lb : b < s.heap.objs.size := by
    rcases List.mem_cons.mp hb with rfl | hb
    · exact le
    · rw [List.mem_singleton.mp hb]; exact li
  rw [upd_ne (Nat.ne_of_lt lb)]
  exact (fp b hb).1
theorem turn_enumS {elts : List Expr} {kk : Nat} {tpos : Pos} (z : Str) (t : Tok) (e it : Addr) :
    Turn P w K (.Tuple elts kk tpos) (ItES z) [e, it] e (fun i h => (∃ old, IsEnum h e it ((i : Nat) : Int) old) ∧ h.IsStrIter it (strIterType z) z t i ∧ e ≠ it) where
  mem := List.mem_cons_self
  obj := fun i h st => by
    obtain ⟨⟨old, he⟩, ⟨o, ho, _, hd⟩, _⟩ := st
    exact two_obj he ho (fun v q => nomatch q) (fun v q => by rw [hd] at q; cases q)
  keep := fun i h h' st k => by
    obtain ⟨⟨old, he⟩, ⟨o, ho, r⟩, ne⟩ := st
    exact ⟨⟨old, k e (by simp) _ he⟩, ⟨o, k it (by simp) o ho, r⟩, ne⟩
  item := by
    intro X e1 e2 e3 calm i pins s σ H E I fp st go
    subst e1 e2 e3
    obtain ⟨⟨old, he⟩, hit, ne⟩ := st
    have li : it < s.heap.objs.size := by obtain ⟨_, q, _⟩ := hit; exact Heap.lt_size q
    have hd : X.A.in1.handled = none := I.ok.hd calm
    refine wpAny_pyNext_enum_itemD (Draws.text hd it z t) he hit go ne (by simpa using ne) fun x h1 tk hx out hit1 pr _ kp => ?_
    obtain ⟨c, u, hc, rfl⟩ := hx
    refine ⟨_, rfl, wpAny_letOwnedTupleGo_enum (s := { s with heap := h1, toks := tk + 1 }) out fun h2 he2 sb => ?_⟩
    obtain ⟨I2, fr, no⟩ := pair_new (x := .str ⟨#[c]⟩) I fp (Heap.lt_size he) li ⟨u, rfl⟩ pr kp sb
    refine ⟨.ref s.heap.objs.size, _, I2, rfl, ⟨_, c, rfl, fr, rfl, hc⟩, ⟨⟨_, he2⟩, ?_, ne⟩, no⟩
    obtain ⟨o, ho, r⟩ := hit1
    exact ⟨o, (sb.2 it (Ne.symm ne)).trans ho, r⟩
  done := by
    intro X e1 e2 e3 calm i pins s σ H E I fp st stop
    subst e1 e2 e3
    obtain ⟨⟨old, he⟩, hit, ne⟩ := st
    obtain ⟨f0, f1, f2, f3, f4, f5⟩ := fp it (by simp)
    have hd : X.A.in1.handled = none := I.ok.hd calm
    refine wpAny_pyNext_enum_endD (Draws.text hd it z t) he (stop ▸ hit) fun h' eb => ⟨rfl, I.turned (t' := s.toks) (fun b o hb q => eb b o hb q) f0 f1 f3 f4 f5⟩
  self := fun A i s Q E st h => by
    obtain ⟨⟨_, he⟩, _⟩ := st
    exact wpAny_pyIter_enum he h
theorem turn_enumT {elts : List Expr} {kk : Nat} {tpos : Pos} (a e it : Addr) :
    Turn P w K (.Tuple elts kk tpos) (ItET K a) [e, it] e (fun i h => (∃ old, IsEnum h e it ((i : Nat) : Int) old) ∧ h.IsTupleIter it a i ∧ e ≠ it ∧ e ≠ a ∧ a ≠ it) where
  mem := List.mem_cons_self
  obj := fun i h st => by
    obtain ⟨⟨old, he⟩, ⟨o, ho, _, hd⟩, _⟩ := st
    exact two_obj he ho (fun v q => nomatch q) (fun v q => by rw [hd] at q; cases q)
  keep := fun i h h' st k => by
    obtain ⟨⟨old, he⟩, ⟨o, ho, r⟩, ne⟩ := st
    exact ⟨⟨old, k e (by simp) _ he⟩, ⟨o, k it (by simp) o ho, r⟩, ne⟩
  item := by
    intro X e1 e2 e3 calm i pins s σ H E I fp st go
    subst e1 e2 e3
    obtain ⟨⟨old, he⟩, hit, ne, nea, nai⟩ := st
    obtain ⟨xs, x, sq, hx⟩ := go
    obtain ⟨its, rv, pt, _⟩ := I.tuple sq
    obtain ⟨u, hu, ru⟩ := rv.get hx
    have li : it < s.heap.objs.size := by obtain ⟨_, q, _⟩ := hit; exact Heap.lt_size q
    have hd : X.A.in1.handled = none := I.ok.hd calm
    have lt : i < its.toArray.size := by
      rw [List.size_toArray]
      exact (List.getElem?_eq_some_iff.mp hu).1
    refine wpAny_pyNext_enum_itemD (Draws.tuple hd it a nai its.toArray) he ⟨hit, (show s.heap.IsTuple a its.toArray from pt)⟩ lt ne (by simp [ne, nea]) fun y h1 tk hy out hit1 pr _ kp => ?_
    obtain rfl : y = u := by
      have hy' : its.toArray[i]? = some y := hy
      rw [List.getElem?_toArray, hu] at hy'
      exact (Option.some.inj hy').symm
    refine ⟨_, rfl, wpAny_letOwnedTupleGo_enum (s := { s with heap := h1, toks := tk + 1 }) out fun h2 he2 sb => ?_⟩
    obtain ⟨I2, fr, no⟩ := pair_new (x := x) I fp (Heap.lt_size he) li ru pr kp sb
    refine ⟨.ref s.heap.objs.size, _, I2, rfl, ⟨_, x, rfl, fr, rfl, fun ys hy2 => ?_⟩, ⟨⟨_, he2⟩, ?_, ne, nea, nai⟩, no⟩
    · rw [I.tuple_inj hy2 sq]; exact hx
    · obtain ⟨o, ho, r⟩ := hit1.1
      exact ⟨o, (sb.2 it (Ne.symm ne)).trans ho, r⟩
  done := by
    intro X e1 e2 e3 calm i pins s σ H E I fp st stop
    subst e1 e2 e3
    obtain ⟨⟨old, he⟩, hit, ne, nea, nai⟩ := st
    obtain ⟨xs, sq, hl⟩ := stop
    obtain ⟨its, rv, pt, _⟩ := I.tuple sq
    obtain ⟨f0, f1, f2, f3, f4, f5⟩ := fp it (by simp)
    have hd : X.A.in1.handled = none := I.ok.hd calm
    have sz : its.toArray.size = i := by rw [List.size_toArray, ← rv.length, hl]
    refine wpAny_pyNext_enum_endD (Draws.tuple hd it a nai its.toArray) he ⟨sz ▸ hit, (show s.heap.IsTuple a its.toArray from pt)⟩ fun h' eb => ⟨rfl, I.turned (t' := s.toks) (fun b o hb q => eb b o hb q) f0 f1 f3 f4 f5⟩
  self := fun A i s Q E st h => by
    obtain ⟨⟨_, he⟩, _⟩ := st
    exact wpAny_pyIter_enum he h
end
section
abbrev iterT (l : Addr) : Obj := { cls := .type "tuple_iterator", data := .fields #[.ref l, .int 0 0] }
abbrev enumO (n : Addr) : Obj := { cls := .type "enumerate", data := .fields #[.none, .bool false, .ref n, rawInt 0, .none, .none] }
open AutoSeq1 (wpAny_loadPart') in
theorem enum_newT (l : Addr) (items : Array Value) (n : Nat) (dct : Option Addr) (sl : Array (Option Value)) :
    Meets (Builtin.«enumerate.__new__» ⟨[.type "enumerate", .ref l], []⟩) (fun _ R s => s.heap.get? l = some { cls := .type "tuple", dict := dct, data := .seq items n, slots := sl } ∧
      R (.ok (.ret (.ref (s.heap.push (iterT l)).objs.size))) { s with heap := (s.heap.push (iterT l)).push (enumO s.heap.objs.size) }) :=
  .of_wp fun prog w A R s pre => by
    obtain ⟨hp, g, d, tk, os⟩ := s
    obtain ⟨at0, fin⟩ := pre
    have sub0 := sub_enumerate
    have isT : Heap.IsTuple (Shared.heap ⟨hp, g, d, tk, os⟩) l items := ⟨_, at0, rfl, n, rfl⟩
    wp_walk using wpAny_loadPart' at0
    refine wpAny_stack_any fun stk => wpAny_pure ?_
    split
    · rename_i cl _ _ _ _ _
      cases (cl == Value.type "enumerate")
      · wp_walk using wpAny_loadPart' at0, wpAny_pyIter_tuple isT
        exact ⟨_, rfl, fin⟩
      · wp_walk using wpAny_loadPart' at0, wpAny_pyIter_tuple isT
        exact ⟨_, rfl, fin⟩
    · wp_walk using wpAny_loadPart' at0, wpAny_pyIter_tuple isT
      exact ⟨_, rfl, fin⟩
theorem enum_tuple {prog : Program} {w : World} {A : Around} {E : Value → Shared → Prop} {s : Shared} {l : Addr} {items : Array Value} {Z : Value → Shared → Prop} (isT : s.heap.IsTuple l items)
    (fin : ∀ h', IsEnum h' (s.heap.objs.size + 1) s.heap.objs.size 0 .none → h'.IsTupleIter s.heap.objs.size l 0 → (∀ b o, s.heap.get? b = some o → h'.get? b = some o) → Z (.ref (s.heap.objs.size + 1)) { s with heap := h' }) :
    wpAny (model prog w) A (call (.type "enumerate") [.ref l]) Z E s := by
  obtain ⟨⟨oc, od, oda, osl⟩, at0, oc1, n, od1⟩ := isT
  simp only at oc1 od1
  subst oc1 od1
  refine callType_new F.called_enumerate (by decide) (F.typeCall_enumerate_1 _) (F.newCall_enumerate_1 _) (fun ob => F.args_object_init_2 ob _) F.entry_enumerate_new (enum_newT l items n od osl) ⟨at0, ?_⟩
  have sz : (s.heap.push (iterT l)).objs.size = s.heap.objs.size + 1 := Heap.size_push ..
  show _ ∧ _
  rw [sz]
  have en : IsEnum ((s.heap.push (iterT l)).push (enumO s.heap.objs.size)) (s.heap.objs.size + 1) s.heap.objs.size 0 .none := by
    have z := Heap.get?_push_size (s.heap.push (iterT l)) (o := enumO s.heap.objs.size) rfl
    rw [sz] at z
    exact z
  exact ⟨⟨_, en, rfl⟩, fin _ en ⟨_, Heap.get?_push_of_some _ (Heap.get?_push_size _ rfl), rfl, rfl⟩ fun b o x => Heap.get?_push_of_some _ (Heap.get?_push_of_some _ x)⟩
end
section
variable {X : Cx} {e : Expr} {ta : TA} {p pos tpos : Pos} {elts : List Expr} {kk : Nat}
def iEnumS (ta : TA) : TI := fun σ H R => ta σ H fun vs H1 => ∃ z, vs = [.str z] ∧ R (ItES z) H1
def iEnumT (K : PySem.W.Frag) (ta : TA) : TI := fun σ H R => ta σ H fun vs H1 => ∃ a xs, vs = [.ref a] ∧ SqT K H1 a xs ∧ R (ItET K a) H1
theorem two_new {pins : List (Addr × Obj)} {σ : L2.St} {H : Hp} {s : Shared} (I : Inv X pins σ H s) : ∀ b ∈ [s.heap.objs.size + 1, s.heap.objs.size], FpOk X pins H b := fun b hb => by
  have le : s.heap.objs.size ≤ b := by
    rcases List.mem_cons.mp hb with rfl | hb
    · exact Nat.le_add_right _ _
    · rw [List.mem_singleton.mp hb]; exact Nat.le_refl _
  exact I.fpOk le (I.hok.fresh le)
theorem pi_enumS (hg : Gl X "enumerate") (hm : X.mg "enumerate" = none) (ha : PA X [e] ta) (hs : starEach [e] X.env = [(false, eval e X.env)] := by rfl) : PI X (.Tuple elts kk tpos) (.Call (.Name "enumerate" p) [e] [] pos) (iEnumS ta) := by
  refine ⟨fun pins s σ H R I h => ?_⟩
  refine Call_ (ld_blt I hg hm boot_enumerate (PyProof.Rows.callWith_type1 (thn (ha.run pos pins s σ H _ I h) fun us s1 res => ?_) hs rfl))
  obtain ⟨vs, H1, I1, r1, z, rfl, q⟩ := res
  obtain ⟨u, rfl, ru⟩ := vals_one r1
  obtain ⟨t, rfl⟩ := (show ∃ t, u = Value.str z t from ru)
  refine call_enumerate_str fun h' en hit _ kp => wpAny_pyIter_enum en ?_
  exact ⟨s1.heap.objs.size + 1, [s1.heap.objs.size + 1, s1.heap.objs.size], _, _, H1, rfl, I1.kept (t' := s1.toks) kp, turn_enumS z t (s1.heap.objs.size + 1) s1.heap.objs.size, ⟨⟨.none, en⟩, hit, Nat.succ_ne_self _⟩, two_new I1, q⟩
theorem pi_enumT (hg : Gl X "enumerate") (hm : X.mg "enumerate" = none) (ha : PA X [e] ta) (hs : starEach [e] X.env = [(false, eval e X.env)] := by rfl) : PI X (.Tuple elts kk tpos) (.Call (.Name "enumerate" p) [e] [] pos) (iEnumT X.K ta) := by
  refine ⟨fun pins s σ H R I h => ?_⟩
  refine Call_ (ld_blt I hg hm boot_enumerate (PyProof.Rows.callWith_type1 (thn (ha.run pos pins s σ H _ I h) fun us s1 res => ?_) hs rfl))
  obtain ⟨vs, H1, I1, r1, a, xs, rfl, sq, q⟩ := res
  obtain ⟨u, rfl, ru⟩ := vals_one r1
  obtain rfl : u = Value.ref a := ru
  obtain ⟨its, rv, pt, _⟩ := I1.tuple sq
  have isT : s1.heap.IsTuple a its.toArray := pt
  have la : a < s1.heap.objs.size := by obtain ⟨o, ho, _⟩ := isT; exact Heap.lt_size ho
  refine enum_tuple isT fun h' en hit kp => wpAny_pyIter_enum en ?_
  exact ⟨s1.heap.objs.size + 1, [s1.heap.objs.size + 1, s1.heap.objs.size], _, _, H1, rfl, I1.kept (t' := s1.toks) kp, turn_enumT a (s1.heap.objs.size + 1) s1.heap.objs.size, ⟨⟨.none, en⟩, hit, Nat.succ_ne_self _, Nat.ne_of_gt (Nat.lt_succ_of_lt la), Nat.ne_of_lt la⟩, two_new I1, q⟩
end
/-! ### walks -/
theorem walk_enumS {z : Str} : Walk (ItES z) z.cps.size (fun _ => True) (fun i H v H' => ∃ T c, v = .ref T ∧ H T = none ∧ H' = upd H T (.tup [.int (i : Nat), .str ⟨#[c]⟩]) ∧ z.cps[i]? = some c) := ⟨fun _ _ hi _ => hi, fun _ _ => rfl, fun _ _ _ _ _ _ y => y⟩
theorem walk_enumT {K : PySem.W.Frag} {a : Addr} {xs : List V} : Walk (ItET K a) xs.length (fun H => SqT K H a xs) (fun i H v H' => ∃ T x, v = .ref T ∧ H T = none ∧ H' = upd H T (.tup [.int (i : Nat), x]) ∧ xs[i]? = some x) :=
  ⟨fun i _ hi q => ⟨xs, xs[i], q, by simp [hi]⟩, fun _ q => ⟨xs, q, rfl⟩, fun _ _ _ _ _ q y => by obtain ⟨T, x, h1, h2, h3, h4⟩ := y; exact ⟨T, x, h1, h2, h3, h4 xs q⟩⟩
/-- a loop of a generator, by the walk -/
theorem gforW {J : It} {n : Nat} {G : Hp → Prop} {Y : Nat → Hp → V → Hp → Prop} (wk : Walk J n G Y) {g : TG} {tb : TGn} {D : GEnds} {ys : List V} {σ : L2.St} {H : Hp} (Pv : Nat → List V → L2.St → Hp → Prop) (h0 : Pv 0 ys σ H) (hG : ∀ i ys σ H, i ≤ n → Pv i ys σ H → G H)
    (hs : ∀ i x ys σ H H', i < n → Pv i ys σ H → Y i H x H' → g x σ H' fun σ2 H2 => tb { D with nx := Pv (i + 1), ct := Pv (i + 1), bk := D.nx } ys σ2 H2) (hd : ∀ ys σ H, Pv n ys σ H → D.nx ys σ H) :
    ∃ W : Nat → Nat → List V → L2.St → Hp → Prop, (∃ m, W 0 m ys σ H) ∧ ∀ i m ys σ H, W i m ys σ H → (J.stop i H ∧ D.nx ys σ H) ∨ (J.go i H ∧ ∃ N : List V → L2.St → Hp → Prop, (∀ ys' σ' H', N ys' σ' H' → ∃ m', m' < m ∧ W (i + 1) m' ys' σ' H') ∧ ∀ x H', J.yld i H x H' → g x σ H' fun σ2 H2 => tb { D with nx := N, ct := N, bk := D.nx } ys σ2 H2) := by
  refine ⟨fun i m ys σ H => m = n - i ∧ i ≤ n ∧ Pv i ys σ H, ⟨n, by simp, Nat.zero_le _, h0⟩, ?_⟩
  rintro i m ys σ H ⟨rfl, hi, p⟩
  have q := hG i ys σ H hi p
  by_cases lt : i < n
  · exact .inr ⟨wk.goes i H lt q, Pv (i + 1), fun ys' σ' H' p' => ⟨n - (i + 1), by omega, rfl, lt, p'⟩, fun x H' y => hs i x ys σ H H' lt p (wk.yields i H x H' lt q y)⟩
  · obtain rfl : i = n := by omega
    exact .inl ⟨wk.stops H q, hd ys σ H p⟩
end KT

/-! KGen: if and for within a generator def. -/
namespace KGen
open PySem PySem.Spec PyProof.Rows L2 GenW
section
variable {X : Cx}
/-! ### if -/
def tGIf (tc : TT) (t1 t2 : TGn) : TGn := fun D ys σ H => tc σ H fun b H1 => if b = true then t1 D ys σ H1 else t2 D ys σ H1
theorem gs_if {test : Expr} {b1 b2 : List Stmt} {pos : Pos} {tc : TT} {t1 t2 : TGn} (hc : PT X test tc) (h1 : GSs X b1 t1) (h2 : GSs X b2 t2) : GS X (.If test b1 b2 pos) (tGIf tc t1 t2) := by
  refine ⟨fun A S ip R n ys s₀ c fs K J gd lv s σ H D g hn k hI ht => ?_⟩
  obtain ⟨acc, cc, r, I⟩ := hI
  rw [exec_If]
  refine seg_bind_wrap (wpAny_standAt ?_)
  refine seg_bind_wrap ?_
  rw [g.over]
  refine wpAny_mono (hc.run _ s σ H _ I ht) (fun b s' hb => ?_) fun x s' hx => k.exc n s₀ x s' hx
  obtain ⟨H2, I2, q2⟩ := hb
  cases b with
  | true =>
    rw [if_pos rfl] at q2 ⊢
    exact h1.run A S ip R n ys s₀ c fs K J gd lv s' σ H2 D g hn k ⟨acc, cc, r, I2⟩ q2
  | false =>
    rw [if_neg Bool.false_ne_true] at q2 ⊢
    exact h2.run A S ip R n ys s₀ c fs K J gd lv s' σ H2 D g hn k ⟨acc, cc, r, I2⟩ q2
/-! ### for -/
def tGFor (wi : TI) (g : TG) (tb : TGn) : TGn := fun D ys σ H => wi σ H fun J H1 => ∃ W : Nat → Nat → List V → L2.St → Hp → Prop, (∃ m, W 0 m ys σ H1) ∧ ∀ i m ys σ H, W i m ys σ H →
  (J.stop i H ∧ D.nx ys σ H) ∨ (J.go i H ∧ ∃ N : List V → L2.St → Hp → Prop, (∀ ys' σ' H', N ys' σ' H' → ∃ m', m' < m ∧ W (i + 1) m' ys' σ' H') ∧ ∀ x H', J.yld i H x H' → g x σ H' fun σ2 H2 => tb { D with nx := N, ct := N, bk := D.nx } ys σ2 H2)
/-- what a loop does with an exception -/
abbrev noted (e : Value) (env : Env) : Sem PySem.Fin := (do noteFrame e env; theTreesLotGoes e : Sem Unit).wrap (fun _ => .raise e) .raise id id
abbrev turned (tg : Expr) (it : Value) (body : List Stmt) (env : Env) : Flow → Sem PySem.Fin := fun f => match f with
  | .next | .cont => .pure (.again (.forLoop tg it body [] env))
  | .brk => .pure (.done .next)
  | .ret v => .pure (.done (.ret v))
theorem seg_for_ {prog : Program} {w : World} {A : Around} {R : GenEnd} {Y : Protocol} {n : Nat} {s₀ : Shared} {fs : List Frame} {s : Shared} {env : Env} {tg : Expr} {it : Value} {body : List Stmt}
    (h : wpAny (model prog w) (A.over (.forLoop tg it body [] env) fs) (pyNext it) (fun r s1 => match r with
        | none => Seg (model prog w) A R Y n s₀ (.forLoop tg it body [] env) (.pure (.again (.block [] env))) fs s1
        | some v => wpAny (model prog w) (A.over (.forLoop tg it body [] env) fs) (letOwnedTupleGo tg it v) (fun _ s2 => wpAny (model prog w) (A.over (.forLoop tg it body [] env) fs) (assign tg env v) (fun _ s3 =>
            Seg (model prog w) A R Y n s₀ (.forLoop tg it body [] env) ((execs body env).wrap (turned tg it body env) (fun e => noted e env) id id) fs s3)
            (fun x s' => Seg (model prog w) A R Y n s₀ (.forLoop tg it body [] env) (noted x env) fs s') s2) (fun x s' => Seg (model prog w) A R Y n s₀ (.forLoop tg it body [] env) (noted x env) fs s') s1)
      (fun x s' => Seg (model prog w) A R Y n s₀ (.forLoop tg it body [] env) (noted x env) fs s') s) :
    Seg (model prog w) A R Y n s₀ (.forLoop tg it body [] env) ((model prog w).den (.forLoop tg it body [] env)) fs s := by
  show Seg _ A R Y n s₀ _ ((forTurn tg it body [] env).onRaise (fun x => do noteFrame x env; theTreesLotGoes x)) fs s
  have bad : ∀ (x : Value) (s' : Shared), Seg (model prog w) A R Y n s₀ (.forLoop tg it body [] env) (noted x env) fs s' → Seg (model prog w) A R Y n s₀ (.forLoop tg it body [] env) ((do noteFrame x env; theTreesLotGoes x : Sem Unit).bind fun _ => .raise x) fs s' := fun x s' hx => by
    rw [Sem.bind_eq_wrap]
    exact hx
  unfold forTurn
  rw [Sem.onRaise_eq_wrap]
  refine seg_bind_wrap (wpAny_standAt ?_)
  refine seg_bind_wrap (wpAny_onRaise (wpAny_mono h (fun r s1 h1 => ?_) fun x s' hx => wpAny_standAt (bad x s' hx)))
  cases r with
  | none => exact h1
  | some v =>
    refine seg_bind_wrap (wpAny_mono h1 (fun _ s2 h2 => ?_) fun x s' hx => bad x s' hx)
    refine seg_bind_wrap (wpAny_mono h2 (fun _ s3 h3 => ?_) fun x s' hx => bad x s' hx)
    rw [Sem.bind_eq_wrap', Sem.wrap_wrap]
    rw [Sem.wrap_congr (execs body env) _ _ (K' := turned tg it body env) (H' := fun e => noted e env) (fun f => by cases f <;> rfl) (fun e => by exact Sem.bind_eq_wrap _ _)]
    exact h3
theorem pinsAt_ne {pins : List (Addr × Obj)} {H : Hp} {fp : List Addr} {h : Heap} {S : Addr} {o : Obj} (hf : ∀ b ∈ fp, FpOk X ((S, o) :: pins) H b) : ∀ p ∈ pinsAt fp h, p.1 ≠ S := fun p hp z => by
  obtain ⟨hb, _⟩ := of_pinsAt hp
  exact (hf p.1 hb).2.2.2.2.2 (S, o) (List.mem_append_right _ List.mem_cons_self) z.symm
theorem gs_for {tg iter : Expr} {body : List Stmt} {wi : TI} {g : TG} {tb : TGn} {pos : Pos} (hp : PassesOwn (model X.prog X.w) X.A X.env X.xe) (calm : X.calm = true) (hi : PI X tg iter wi) (hg : PG X tg g) (hb : GSs X body tb)
    (hs : ∀ x, foldedSetIterable iter X.env x = pure x := by intro _; rfl) : GS X (.For tg iter body [] pos) (tGFor wi g tb) := by
  refine ⟨fun A S ip R n ys s₀ c fs K J gd lv s σ H D gc hn k hI ht => ?_⟩
  obtain ⟨acc, cc, r, I⟩ := hI
  rw [exec_For]
  refine seg_bind_wrap (wpAny_standAt ?_)
  refine seg_bind_wrap ?_
  rw [gc.over]
  refine wpAny_mono (hi.run _ s σ H _ I ht) (fun v s1 h1 => ?_) fun x s' hx => k.exc n s₀ x s' hx
  refine seg_bind_wrap (wpAny_of_eq (hs v) ?_)
  refine seg_bind_wrap (wpAny_standAt ?_)
  refine seg_bind_wrap (wpAny_holding ?_)
  rw [gc.over]
  refine wpAny_mono h1 (fun itv s2 h2 => ?_) fun x s' hx => k.exc n s₀ x s' hx
  obtain ⟨it, fp, tn, JJ, H2, rfl, I2, T, st2, f2, W, ⟨m0, w0⟩, turn⟩ := h2
  refine seg_call fun p => ?_
  have gl := fun (kk : Result → Sem PySem.Fin) => gc_loop (k := kk) (c' := .forLoop tg (.ref it) body [] X.env) (l := lv []) (kp := []) (p := p) gc rfl rfl
  have gb := fun (kk : Result → Sem PySem.Fin) => gc_loop (k := kk) (c' := .block [] X.env) (l := lv []) (kp := []) (p := p) gc rfl rfl
  have loop : ∀ (m i n : Nat) (ys : List V) (acc : Array Value) (cc : Nat) (s₀ s : Shared) (σ : L2.St) (H : Hp), Vals ys acc.toList → n + ys.length = sizeLine → W i m ys σ H → Inv X ((S, lstObj acc cc) :: ip) σ H s → tn i s.heap → (∀ b ∈ fp, FpOk X ((S, lstObj acc cc) :: ip) H b) →
      Seg (model X.prog X.w) A R (GY X S) n s₀ (.forLoop tg (.ref it) body [] X.env) ((model X.prog X.w).den (.forLoop tg (.ref it) body [] X.env))
        (.ret (fun r => ((match r with | .ok f => (.pure f : Sem Flow) | .error e => .raise e).onRaise (cameBack X.env)).wrap K J gd lv) none (gd false) (lv []) c p [] :: fs) s := by
    intro m
    induction m using Nat.strongRecOn with
    | ind m ih =>
      intro i n ys acc cc s₀ s σ H r hn w I st f
      have ee : ∀ (n : Nat) (s₀ : Shared) (x : Value) (s' : Shared), X.xe x s' → Seg (model X.prog X.w) A R (GY X S) n s₀ (.forLoop tg (.ref it) body [] X.env) (noted x X.env)
          (.ret (fun r => ((match r with | .ok f => (.pure f : Sem Flow) | .error e => .raise e).onRaise (cameBack X.env)).wrap K J gd lv) none (gd false) (lv []) c p [] :: fs) s' := fun n s₀ x s' hx => by
        refine seg_wrap ?_
        rw [(gl _).over]
        refine wpAny_bind (wpAny_mono (hp x s' hx) (fun _ s'' hcb => wpAny_theTreesLotGoes ?_) fun y s'' hcb => ?_)
        · exact seg_leaf (.error x) (seg_cameBack gc k hcb)
        · exact seg_leaf (.error y) (seg_cameBack gc k hcb)
      refine seg_for_ ?_
      rw [(gl _).over]
      rcases turn i m ys σ H w with ⟨stop, qn⟩ | ⟨go, N, hN, step⟩
      · refine wpAny_mono (T.done X rfl rfl rfl calm i _ s σ H X.xe I f st stop) (fun r' s3 hr => ?_) fun x s' hx => ee n s₀ x s' hx
        obtain ⟨rfl, I3⟩ := hr
        refine seg_again rfl ?_
        show Seg _ _ _ _ _ _ _ (((execs [] X.env).onRaise (fun x => do noteFrame x X.env; theTreesLotGoes x)) >>= fun f => pure (.done f)) _ _
        exact seg_leaf (.ok .next) (k.ok n ys s₀ s3 .next hn ⟨σ, H, ⟨acc, cc, r, I3⟩, qn⟩)
      · refine wpAny_mono (T.item X rfl rfl rfl calm i _ s σ H X.xe I f st go) (fun r' s3 hr => ?_) fun x s' hx => ee n s₀ x s' hx
        obtain ⟨u, rfl, h3⟩ := hr
        refine wpAny_mono h3 (fun _ s5 h5 => ?_) fun x s' hx => ee n s₀ x s' hx
        obtain ⟨x5, H5, I5, r5, y5, st5, fr5⟩ := h5
        have f5 : ∀ b ∈ fp, FpOk X ((S, lstObj acc cc) :: ip) H5 b := fun b hb => ⟨fr5 b hb, (f b hb).2⟩
        have I5' := I5.pinned f5 (T.obj _ _ st5)
        refine wpAny_mono (hg.run _ s5 σ H5 x5 u _ I5' r5 (step x5 H5 y5)) (fun _ s6 h6 => ?_) fun x s' hx => ee n s₀ x s' hx
        obtain ⟨σ6, H6, I6, q6⟩ := h6
        have gp : GC X S (ip ++ pinsAt fp s5.heap) A (.forLoop tg (.ref it) body [] X.env) (.ret (fun r => ((match r with | .ok f => (.pure f : Sem Flow) | .error e => .raise e).onRaise (cameBack X.env)).wrap K J gd lv) none (gd false) (lv []) c p [] :: fs) id :=
          { gl _ with ip := fun p hp => (List.mem_append.mp hp).elim (gc.ip p) (pinsAt_ne f5 p) }
        refine hb.run A S (ip ++ pinsAt fp s5.heap) R n ys s₀ _ _ _ _ id id s6 σ6 H6 { D with nx := N, ct := N, bk := D.nx } gp hn ⟨fun n' ys' s₀' s7 fl hn' hs' => ?_, fun n' s₀' x s7 hx => ee n' s₀' x s7 hx⟩ ⟨acc, cc, r, I6⟩ q6
        have again : ∀ {σ7 : L2.St} {H7 : Hp}, GI X S (ip ++ pinsAt fp s5.heap) ys' σ7 H7 s7 → N ys' σ7 H7 → Seg (model X.prog X.w) A R (GY X S) n' s₀' (.forLoop tg (.ref it) body [] X.env) (.pure (.again (.forLoop tg (.ref it) body [] X.env)))
            (.ret (fun r => ((match r with | .ok f => (.pure f : Sem Flow) | .error e => .raise e).onRaise (cameBack X.env)).wrap K J gd lv) none (gd false) (lv []) c p [] :: fs) s7 := fun {σ7 H7} G7 n7 => by
          obtain ⟨acc7, cc7, r7, I7⟩ := G7
          obtain ⟨m', hm, w7⟩ := hN ys' σ7 H7 n7
          have at7 : ∀ b ∈ fp, ∀ o, s5.heap.get? b = some o → s7.heap.get? b = some o ∧ H7 b = none := fun b hb o e => by
            have z := I7.pin (b, o) (List.mem_append_right _ (List.mem_cons_of_mem _ (List.mem_append_right _ (mem_pinsAt hb e))))
            exact ⟨z.1, z.2.1⟩
          refine seg_again rfl (ih m' hm (i + 1) n' ys' acc7 cc7 s₀' s7 σ7 H7 r7 hn' w7 (I7.pins_of fun q hq => I7.pin q (List.mem_append_right _ ?_)) (T.keep _ _ _ st5 fun b hb o e => (at7 b hb o e).1) fun b hb => ?_)
          · rcases List.mem_cons.mp hq with rfl | hq
            · exact List.mem_cons_self
            · exact List.mem_cons_of_mem _ (List.mem_append_left _ hq)
          · obtain ⟨o, e, _⟩ := T.obj _ _ st5 b hb
            obtain ⟨z1, z2, z3, z4, z5, z6⟩ := f b hb
            refine ⟨(at7 b hb o e).2, z2, z3, z4, z5, fun q hq => ?_⟩
            rcases List.mem_append.mp hq with hq | hq
            · exact z6 q (List.mem_append_left _ hq)
            · rcases List.mem_cons.mp hq with rfl | hq
              · exact z6 (S, lstObj acc cc) (List.mem_append_right _ List.mem_cons_self)
              · exact z6 q (List.mem_append_right _ (List.mem_cons_of_mem _ hq))
        have drop : ∀ {σ7 : L2.St} {H7 : Hp}, GI X S (ip ++ pinsAt fp s5.heap) ys' σ7 H7 s7 → GI X S ip ys' σ7 H7 s7 := fun {σ7 H7} G7 => by
          obtain ⟨acc7, cc7, r7, I7⟩ := G7
          refine ⟨acc7, cc7, r7, I7.pins_of fun q hq => I7.pin q (List.mem_append_right _ ?_)⟩
          rcases List.mem_cons.mp hq with rfl | hq
          · exact List.mem_cons_self
          · exact List.mem_cons_of_mem _ (List.mem_append_left _ hq)
        cases fl with
        | next => obtain ⟨σ7, H7, G7, n7⟩ := hs'; exact again G7 n7
        | cont => obtain ⟨σ7, H7, G7, n7⟩ := hs'; exact again G7 n7
        | brk => obtain ⟨σ7, H7, G7, q7⟩ := hs'; exact seg_leaf (.ok .next) (k.ok n' ys' s₀' s7 .next hn' ⟨σ7, H7, drop G7, q7⟩)
        | ret v => obtain ⟨x7, σ7, H7, G7, r7, q7⟩ := hs'; exact seg_leaf (.ok (.ret v)) (k.ok n' ys' s₀' s7 (.ret v) hn' ⟨x7, σ7, H7, drop G7, r7, q7⟩)
  exact loop m0 0 n ys acc cc s₀ s2 σ H2 r hn w0 I2 st2 f2
end
end KGen

/-! KU: classmethods and own objects called by keywords; list(o.m()) of a generator method. -/
namespace KU
open PySem PySem.Spec PyProof.Rows L2 KB KG KO KY
section
variable {X : Cx}
/-- n: the positional values, the class among them -/
structure CalleeCK (P : Program) (w : World) (K : PySem.W.Frag) (mg : Str → Option Value) (base : Heap) (CX : CXT) (k : Nat) (C : Addr) (m : Str) (ps : List Str) (sp : Sp) (n : Nat) (ks : List Str) (gV : List V → List V → List V) : Prop where
  ex : ∃ (mc : Value) (p g : Addr) (fd : FuncData) (gg : List Value → List Value → List Value), ClX.CRead K C mc ∧ ClX.CMet K C mc m p g ∧ FnOk P w K mg base CX k g fd ps sp ∧ KBn K fd ps n ks gg gV
theorem run_cmK {CX : CXT} {k n : Nat} {g C q : Addr} {fd : FuncData} {ps ks : List Str} {sp : Sp} {gg : List Value → List Value → List Value} {gV : List V → List V → List V} {E : XK} {Z : VK} {pins : List (Addr × Obj)} {σ : L2.St} {H : Hp} {s : Shared} {us ws : List Value} {vs zs : List V}
    (F : FnOk X.prog X.w X.K X.mg X.base CX k g fd ps sp) (room : Room k X.A) (hb : KBn X.K fd ps n ks gg gV) (pass : Passes CX X E) (I : Inv X ((q, PySem.W.methodObj (.ref g) (.ref C)) :: pins) σ H s) (r : Vals vs us) (rz : Vals zs ws) (l1 : vs.length + 1 = n) (l2 : zs.length = ks.length)
    (h : sp (gV (.ref C :: vs) zs) H Z E) : wpAny (model X.prog X.w) X.A (call (.ref q) us (ks.zip ws)) (EP X pins σ Z) X.xe s := by
  have rel : Vals (V.ref C :: vs) (Value.ref C :: us) := .cons rfl r
  have bt := hb.to s (Value.ref C :: us) ws I.kIn (by rw [List.length_cons, ← r.length]; exact l1) (rz.length.symm.trans l2)
  have z : wpAny (model X.prog X.w) X.A (call (.ref q) us (ks.zip ws)) (EP X ((q, PySem.W.methodObj (.ref g) (.ref C)) :: pins) σ Z) X.xe s := by
    refine wpAny_call (PySem.W.method_call (ClX.pin_at I) ?_)
    refine codeAny_mono (F.run X.A X.stack s H ⟨.ref C :: us, ks.zip ws⟩ _ _ Z E room I.env0 bt (hb.rel rel rz) h) fun res s2 y => ?_
    match res, y with
    | .error e, y => exact pass _ σ H s e s2 I y
    | .ok (.ret u), y => exact I.after y
    | .ok .next, y => exact y.elim
    | .ok .brk, y => exact y.elim
    | .ok .cont, y => exact y.elim
  exact thn z fun _ _ y => ClX.unpinE y
def tCMethK (C : Addr) (sp : Sp) (n m : Nat) (gV : List V → List V → List V) (E : XK) (ta : TE) (t tk : TA) : TE := fun σ H Q => ta σ H fun x H1 => x = .ref C ∧ t σ H1 fun vs H2 => tk σ H2 fun zs H3 => (vs.length + 1 = n ∧ zs.length = m) ∧ sp (gV (.ref C :: vs) zs) H3 Q E
/-- C.m(e, .., k = v, ..) -/
theorem pe_cmethK {pl : Sem Bool} {CX : CXT} {k n : Nat} {C : Addr} {m : Str} {ps ks : List Str} {sp : Sp} {gV : List V → List V → List V} {E : XK} {o e : Expr} {es : List Expr} {kws : List Keyword} {apos pos : Pos} {ta : TE} {t tk : TA} (c : CalleeCK X.prog X.w X.K X.mg X.base CX k C m ps sp n ks gV) (ho : PE X o ta) (room : Room k X.A) (pass : Passes CX X E)
    (ha : PA X (e :: es) t) (hkw : PK X kws tk) (d1 : (backToKw pos (keywordEach kws X.env)).all (·.1.isSome) = true := by rfl) (d2 : (backToKw pos (keywordEach kws X.env)).filterMap (·.1) = ks := by rfl) (d3 : ((backTo pos (starEach (e :: es) X.env)).any (·.1) || (backToKw pos (keywordEach kws X.env)).any (·.1.isNone)) = false := by rfl)
    (d5 : starEach (e :: es) X.env = (false, eval e X.env) :: starEach es X.env := by rfl)
    (d4 : eval (.Call (.Attribute o m apos) (e :: es) kws pos) X.env = (do
      let ov ← eval o X.env
      standAt apos.atName
      let (f, first) ← holding [ov] (getMethod ov m pl)
      callWith pos f first (backTo pos (starEach (e :: es) X.env)) (backToKw pos (keywordEach kws X.env))) := by rfl) :
    PE X (.Call (.Attribute o m apos) (e :: es) kws pos) (tCMethK C sp n ks.length gV E ta t tk) := by
  obtain ⟨mc, p, g, fd, gg, r, cm, F, hb⟩ := c.ex
  refine ⟨fun pins s σ H Z I h => PySem.W.methodCall_KW (pl := pl) (thn (ho.run pins s σ H _ I h) fun u s1 res => ?_) d4⟩
  obtain ⟨x, H1, I1, rx, rfl, q⟩ := res
  obtain rfl : u = Value.ref C := rx
  refine ClX.getmethcm_ok I1 r cm fun s2 I2 => ?_
  refine PySem.W.callWith_of d3 (PySem.W.keeps_M (self := .ref C) cm.fi) (evalArgs_kw2 d1 (thn (ha.run pos _ s2 σ H1 _ I2 q) fun us s3 res => ?_) d5)
  obtain ⟨vs, H2, I3, rv, q⟩ := res
  refine thn (hkw.run pos _ s3 σ H2 _ I3 q) fun ws s4 res => ?_
  obtain ⟨zs, H3, I4, rz, l, q⟩ := res
  refine ⟨⟨ClX.pin_at I4, I4.kIn⟩, ?_⟩
  rw [d2]
  exact run_cmK F room hb pass I4 rv rz l.1 l.2 q
/-- C.m(k = v, ..) -/
theorem pe_cmethK0 {pl : Sem Bool} {CX : CXT} {k : Nat} {C : Addr} {m : Str} {ps ks : List Str} {sp : Sp} {gV : List V → List V → List V} {E : XK} {o : Expr} {kws : List Keyword} {apos pos : Pos} {ta : TE} {tk : TA} (c : CalleeCK X.prog X.w X.K X.mg X.base CX k C m ps sp 1 ks gV) (ho : PE X o ta) (room : Room k X.A) (pass : Passes CX X E)
    (hkw : PK X kws tk) (d1 : (backToKw pos (keywordEach kws X.env)).all (·.1.isSome) = true := by rfl) (d2 : (backToKw pos (keywordEach kws X.env)).filterMap (·.1) = ks := by rfl) (d3 : ((backTo pos (starEach [] X.env)).any (·.1) || (backToKw pos (keywordEach kws X.env)).any (·.1.isNone)) = false := by rfl)
    (d4 : eval (.Call (.Attribute o m apos) [] kws pos) X.env = (do
      let ov ← eval o X.env
      standAt apos.atName
      let (f, first) ← holding [ov] (getMethod ov m pl)
      callWith pos f first (backTo pos (starEach [] X.env)) (backToKw pos (keywordEach kws X.env))) := by rfl) :
    PE X (.Call (.Attribute o m apos) [] kws pos) (tCMethK C sp 1 ks.length gV E ta tNil tk) := by
  obtain ⟨mc, p, g, fd, gg, r, cm, F, hb⟩ := c.ex
  refine ⟨fun pins s σ H Z I h => PySem.W.methodCall_KW (pl := pl) (thn (ho.run pins s σ H _ I h) fun u s1 res => ?_) d4⟩
  obtain ⟨x, H1, I1, rx, rfl, q⟩ := res
  obtain rfl : u = Value.ref C := rx
  refine ClX.getmethcm_ok I1 r cm fun s2 I2 => ?_
  refine PySem.W.callWith_of d3 (PySem.W.keeps_M (self := .ref C) cm.fi) (evalArgs_kw2_nil d1 (thn (hkw.run pos _ s2 σ H1 _ I2 q) fun ws s4 res => ?_))
  obtain ⟨zs, H3, I4, rz, l, q⟩ := res
  refine ⟨⟨ClX.pin_at I4, I4.kIn⟩, ?_⟩
  rw [d2]
  exact run_cmK (us := []) (vs := []) F room hb pass I4 .nil rz l.1 l.2 q
theorem r_cmethK {σ : L2.St} {H : Hp} {Q : VK} {C : Addr} {sp : Sp} {n m : Nat} {gV : List V → List V → List V} {E : XK} {ta : TE} {t tk : TA} (q : ta σ H fun x H1 => x = .ref C ∧ t σ H1 fun vs H2 => tk σ H2 fun zs H3 => (vs.length + 1 = n ∧ zs.length = m) ∧ sp (gV (.ref C :: vs) zs) H3 Q E) : tCMethK C sp n m gV E ta t tk σ H Q := q
/-! ### o(k = v) of an own object -/
structure OwnCK (P : Program) (w : World) (K : PySem.W.Frag) (mg : Str → Option Value) (base : Heap) (CX : CXT) (k : Nat) (C : Addr) (ps : List Str) (sp : Sp) (ks : List Str) (gV : List V → List V → List V) : Prop where
  ex : ∃ (g : Addr) (fd : FuncData) (gg : List Value → List Value → List Value), PySem.W.findIn K (.ref C) "__call__" = some (some (.ref g)) ∧ PySem.W.isFn K (.ref g) = true ∧ PySem.W.fnIn K g = true ∧ FnOk P w K mg base CX k g fd ps sp ∧ KBn K fd ps 1 ks gg gV
def tCallOK (C : Addr) (sp : Sp) (m : Nat) (gV : List V → List V → List V) (E : XK) (tf : TE) (tk : TA) : TE := fun σ H Q => tf σ H fun x H1 => ∃ (a dx : Addr) (fs : List (Str × V)), x = .ref a ∧ H1 a = some (.ins C dx fs) ∧ tk σ H1 fun zs H2 => H2 a = some (.ins C dx fs) ∧ zs.length = m ∧ sp (gV [.ref a] zs) H2 Q E
theorem pe_callOK {CX : CXT} {k : Nat} {C : Addr} {x : Str} {ps ks : List Str} {sp : Sp} {gV : List V → List V → List V} {E : XK} {kws : List Keyword} {p pos : Pos} {tf : TE} {tk : TA} (c : OwnCK X.prog X.w X.K X.mg X.base CX k C ps sp ks gV) (room : Room k X.A) (pass : Passes CX X E) (hf : PE X (.Name x p) tf) (hkw : PK X kws tk)
    (d1 : (backToKw pos (keywordEach kws X.env)).all (·.1.isSome) = true := by rfl) (d2 : (backToKw pos (keywordEach kws X.env)).filterMap (·.1) = ks := by rfl) (d3 : ((backTo pos (starEach [] X.env)).any (·.1) || (backToKw pos (keywordEach kws X.env)).any (·.1.isNone)) = false := by rfl) :
    PE X (.Call (.Name x p) [] kws pos) (tCallOK C sp ks.length gV E tf tk) := by
  obtain ⟨g, fd, gg, hs, hfn, hfi, F, hb⟩ := c.ex
  refine ⟨fun pins st σ h Z inv pre => wpAny_Call_Name_kw (thn (hf.run pins st σ h _ inv pre) fun u s1 r => ?_)⟩
  obtain ⟨v, h1, inv1, rv, a, dx, fs, rfl, ea, z⟩ := r
  obtain rfl : u = Value.ref a := rv
  refine KC.callWith_own (C := C) (dx := dx) d3 (evalArgs_kw2_nil d1 (thn (hkw.run pos pins s1 σ h1 _ inv1 z) fun ws s2 r => ?_))
  obtain ⟨zs, h2, inv2, rel, ea2, l, z2⟩ := r
  obtain ⟨od, J⟩ := inst_of inv2 ea2
  refine ⟨⟨_, J⟩, ?_⟩
  rw [d2]
  have bt := hb.to s2 [Value.ref a] ws inv2.kIn rfl (rel.length.symm.trans l)
  refine wpAny_call (codeAny_mono (PySem.W.kco_code inv2.kIn J rfl hs hfn hfi (F.run X.A X.stack s2 h2 ⟨[Value.ref a], ks.zip ws⟩ _ _ Z E room inv2.env0 bt (hb.rel (vs := [.ref a]) (us := [Value.ref a]) (.cons rfl .nil) rel) z2)) fun res s3 y => ?_)
  match res, y with
  | .error e, y => exact pass pins σ h2 s2 e s3 inv2 y
  | .ok (.ret u), y => exact inv2.after y
  | .ok .next, y => exact y.elim
  | .ok .brk, y => exact y.elim
  | .ok .cont, y => exact y.elim
theorem r_callOK {σ : L2.St} {H : Hp} {Q : VK} {C : Addr} {sp : Sp} {m : Nat} {gV : List V → List V → List V} {E : XK} {tf : TE} {tk : TA} (q : tf σ H fun x H1 => ∃ (a dx : Addr) (fs : List (Str × V)), x = .ref a ∧ H1 a = some (.ins C dx fs) ∧ tk σ H1 fun zs H2 => H2 a = some (.ins C dx fs) ∧ zs.length = m ∧ sp (gV [.ref a] zs) H2 Q E) : tCallOK C sp m gV E tf tk σ H Q := q
/-! ### list(o.m()) -/
structure CalleeGM (P : Program) (w : World) (K : PySem.W.Frag) (mg : Str → Option Value) (base : Heap) (k : Nat) (C : Addr) (m : Str) (ps : List Str) (sp : SpG) : Prop where
  ex : ∃ (f : Addr) (fd : FuncData), GFn P w K mg base k f fd ps sp ∧ Meth K C m f ∧ Binds K fd ps []
  cl : Cls K C
theorem noStop0 {K : PySem.W.Frag} : NoStop K E0 := fun _ _ _ h => h.elim
theorem pe_listM {pl : Sem Bool} {k : Nat} {C : Addr} {m : Str} {ps : List Str} {sp : SpG} {o : Expr} {apos pos pos' p : Pos} {ta : TE} (c : CalleeGM X.prog X.w X.K X.mg X.base k C m ps sp) (ho : PE X o ta) (room : Room (k + 3) X.A) (hg : Gl X "list") (hm : X.mg "list" = none)
    (d1 : starEach [.Call (.Attribute o m apos) [] [] pos'] X.env = (false, eval (.Call (.Attribute o m apos) [] [] pos') X.env) :: starEach [] X.env := by rfl)
    (d4 : eval (.Call (.Attribute o m apos) [] [] pos') X.env = (do
      let ov ← eval o X.env
      standAt apos.atName
      let (f, first) ← holding [ov] (getMethod ov m pl)
      callWith pos' f first (backTo pos' (starEach [] X.env)) (backToKw pos' (keywordEach [] X.env))) := by rfl) :
    PE X (.Call (.Name "list" p) [.Call (.Attribute o m apos) [] [] pos'] [] pos) (tListG (tMethG C m sp [] E0 ta tNil)) := by
  obtain ⟨f, fd, F, hme, hb⟩ := c.ex
  exact pe_listG (pgen_meth0 (dvs := []) (ds := []) ho c.cl hme F (room.mono (by omega)) hb .nil d4) passL noStop0 room hg hm (by decide +kernel) (by decide) (by decide) d1
theorem r_listM {σ : L2.St} {H : Hp} {Q : VK} {C : Addr} {m : Str} {sp : SpG} {ta : TE} (q : ta σ H fun x H1 => ∃ a dx fs, x = .ref a ∧ H1 a = some (.ins C dx fs) ∧ fs.lookup m = none ∧ sp [x] H1 (fun out H2 => ∀ p, H2 p = none → Q (.ref p) (upd H2 p (.lst out))) E0) : tListG (tMethG C m sp [] E0 ta tNil) σ H Q := q
end
/-! ### name = {k: v for ..} -/
section
variable {X : Cx}
theorem sw_dict {kx vx : Expr} {gs : List Comprehension} {scope : Scope} {pos py : Pos} {y : Str} {l : Nat} {env : Env} (h1 : env.scope.kind = .function) (h2 : env.scope.names.lookup y = some .local) (h3 : (py.line == pos.line) = true)
    (h4 : (scope.names.any fun (n, k) => n == y && (k == .local || k == .cell)) = false) : swapsWith (.DictComp kx vx gs scope pos) (some (.Name y py)) l env = pure true := by
  have k1 : env.kindOf y = some .local := h2
  have k2 : env.blockKind = .function := by
    unfold Env.blockKind
    rw [h1]
    rfl
  unfold swapsWith
  simp only [k2, k1, h4, Expr.pos, h3]
  rfl
theorem ps_setDc {i : Nat} {y : Str} {py : Pos} {kx vx tg iter : Expr} {ifs : List Expr} {scope : Scope} {own : List (Str × Nat)} {pos spos : Pos} {wi : TI} {g : TG} {tt : TT} {tk tv : TE} (calm : X.calm = true) (nd : X.N.Nodup) (hy : X.N[i]? = some y) (loc : X.env.scope.names.lookup y = some .local)
    (sw : swapsWith (.DictComp kx vx [⟨tg, iter, ifs, 0⟩] scope pos) (some (.Name y py)) spos.line X.env = pure true) (hi : PI X tg iter wi) (ok : BlkOk X.N X.env.scope scope own)
    (hg : ∀ (s : Shared) (H : Hp) (C : Addr) (cl : List (Str × Addr)) (fp : List Addr), PG (X.blk s H scope (compEnvC scope cl C X.env) fp) tg g)
    (ht : ∀ (s : Shared) (H : Hp) (C : Addr) (cl : List (Str × Addr)) (fp : List Addr), PTs (X.blk s H scope (compEnvC scope cl C X.env) fp) ifs tt)
    (hk : ∀ (s : Shared) (H : Hp) (C : Addr) (cl : List (Str × Addr)) (fp : List Addr), PE (X.blk s H scope (compEnvC scope cl C X.env) fp) kx tk)
    (hv : ∀ (s : Shared) (H : Hp) (C : Addr) (cl : List (Str × Addr)) (fp : List Addr), PE (X.blk s H scope (compEnvC scope cl C X.env) fp) vx tv) (hs : ∀ x, foldedSetIterable iter X.env x = pure x := by intro _; rfl) :
    PS X (.Assign [.Name y py] (.DictComp kx vx [⟨tg, iter, ifs, 0⟩] scope pos) spos) (tAsg (tDc wi g tt tk tv (own.map (·.2))) (gName i)) := by
  refine ⟨fun pins s σ H D I h => ?_⟩
  rw [exec_Assign_Name_used _ _ _ _ sw]
  refine wpAny_bind (wpAny_standAt (wpAny_bind ?_))
  show wpAny _ X.A (do let _ ← comprehension (.DictComp kx vx [⟨tg, iter, ifs, 0⟩] scope pos) scope X.env (firstIterPos [⟨tg, iter, ifs, 0⟩] pos) newDict false (eval iter X.env) (some (assign (.Name y py) X.env))) _ _ s
  have h' : tDc wi g tt tk tv (own.map (·.2)) σ H (fun x H1 => gName i x σ H1 D.nx) := h
  refine wpAny_bind (thn (dc_core (Qf := fun _ s' => SP X pins D .next s') calm nd I hi ok hg ht hk hv hs h' fun L C s' m H' I' q ns f => ?_) fun _ s' z => wpAny_pure (wpAny_pure z))
  show wpAny _ _ (assign (.Name y py) X.env (.ref L)) _ _ _
  refine wpAny_assign_Name (store_ok2 (v := V.ref L) I' nd hy (.inl loc) rfl (fun s2 I2 at2 => ?_) (.inr loc))
  obtain ⟨a, sb, ha⟩ := at2
  obtain ⟨f0, f1, f2, f3, f4, f5⟩ := f
  have ne : C ≠ a := by
    rcases ha with z | z
    · exact fun e => f1 (e.trans z)
    · exact fun e => f4 y a z e.symm
  exact ⟨m, ns.sameBut sb ne, fun h3 sb3 => ⟨_, H', I2.turned (t' := s2.toks) (fun b o hb e => (sb3.2 b hb).trans e) f0 f1 f3 f4 f5, q⟩⟩
end
theorem r_enumS {σ : L2.St} {H : Hp} {ta : TA} {R : It → Hp → Prop} (q : ta σ H fun vs H1 => ∃ z, vs = [.str z] ∧ R (KT.ItES z) H1) : KT.iEnumS ta σ H R := q
theorem r_enumT {K : PySem.W.Frag} {σ : L2.St} {H : Hp} {ta : TA} {R : It → Hp → Prop} (q : ta σ H fun vs H1 => ∃ a xs, vs = [.ref a] ∧ SqT K H1 a xs ∧ R (KT.ItET K a) H1) : KT.iEnumT K ta σ H R := q
theorem r_gif {σ : L2.St} {H : Hp} {D : GEnds} {ys : List V} {tc : TT} {t1 t2 : TGn} (q : tc σ H fun b H1 => if b = true then t1 D ys σ H1 else t2 D ys σ H1) : KGen.tGIf tc t1 t2 D ys σ H := q
theorem r_gfor {σ : L2.St} {H : Hp} {D : GEnds} {ys : List V} {wi : TI} {g : TG} {tb : TGn} (q : wi σ H fun J H1 => ∃ W : Nat → Nat → List V → L2.St → Hp → Prop, (∃ m, W 0 m ys σ H1) ∧ ∀ i m ys σ H, W i m ys σ H →
  (J.stop i H ∧ D.nx ys σ H) ∨ (J.go i H ∧ ∃ N : List V → L2.St → Hp → Prop, (∀ ys' σ' H', N ys' σ' H' → ∃ m', m' < m ∧ W (i + 1) m' ys' σ' H') ∧ ∀ x H', J.yld i H x H' → g x σ H' fun σ2 H2 => tb { D with nx := N, ct := N, bk := D.nx } ys σ2 H2)) : KGen.tGFor wi g tb D ys σ H := q
theorem r_gthen {σ : L2.St} {H : Hp} {D : GEnds} {ys : List V} {t u : TGn} (q : t { D with nx := fun ys' σ' H' => u D ys' σ' H' } ys σ H) : tGThen t u D ys σ H := q
theorem r_gyield {σ : L2.St} {H : Hp} {D : GEnds} {ys : List V} {te : TE} (h : ys.length < sizeLine) (q : te σ H fun x H1 => D.nx (ys ++ [x]) σ H1) : tGYield te D ys σ H := ⟨h, q⟩
theorem r_g0 {σ : L2.St} {H : Hp} {D : GEnds} {ys : List V} (q : D.nx ys σ H) : tG0 D ys σ H := q
end KU

/-! KV: data that is small enough to be shown by repr; what of a pen is kept; comprehensions that draw. -/
namespace KV
open PySem PySem.Spec PyProof.Rows L2 KB KG KO
/-- may be shown: at most n signs, at most k deep -/
structure Sm (n k : Nat) (d : PyData) : Prop where
  ok : d.showable = true
  nod : d.hasDict = false
  deep : d.depth ≤ k
  len : d.shown.length ≤ n
theorem Sm.mono {n k n' k' : Nat} {d : PyData} (h : Sm n k d) (a : n ≤ n') (b : k ≤ k') : Sm n' k' d := ⟨h.ok, h.nod, Nat.le_trans h.deep b, Nat.le_trans h.len a⟩
theorem sm_all {n k : Nat} : ∀ xs : List PyData, (∀ x ∈ xs, Sm n k x) → PyData.showableAll xs = true ∧ PyData.hasDictAll xs = false ∧ PyData.depthAll xs ≤ k ∧ ((PyData.shownAll xs).map (·.length)).sum ≤ xs.length * n
  | [], _ => ⟨rfl, rfl, Nat.zero_le _, by simp [PyData.shownAll]⟩
  | x :: xs, h => by
    obtain ⟨a, b, c, d⟩ := sm_all xs fun y m => h y (List.mem_cons_of_mem _ m)
    have z := h x List.mem_cons_self
    refine ⟨by simp only [PyData.showableAll, z.ok, a, Bool.and_self], by simp only [PyData.hasDictAll, z.nod, b, Bool.or_self], ?_, ?_⟩
    · simp only [PyData.depthAll]
      exact Nat.max_le.mpr ⟨z.deep, c⟩
    · simp only [PyData.shownAll, List.map_cons, List.sum_cons, List.length_cons, Nat.succ_mul]
      have := z.len
      omega
theorem Sm.tuple {n k : Nat} {xs : List PyData} (h : ∀ x ∈ xs, Sm n k x) : Sm (xs.length * (n + 2) + 3) (k + 1) (.tuple xs) := by
  obtain ⟨a, b, c, d⟩ := sm_all xs h
  refine ⟨by simpa only [PyData.showable] using a, by simpa only [PyData.hasDict] using b, by simp only [PyData.depth]; omega, ?_⟩
  have l := tupleText_len_le (PyData.shownAll xs)
  rw [PyData.shownAll_length] at l
  simp only [PyData.shown]
  rw [Nat.mul_add]
  omega
theorem Sm.list {n k : Nat} {xs : List PyData} (h : ∀ x ∈ xs, Sm n k x) : Sm (xs.length * (n + 2) + 3) (k + 1) (.list xs) := by
  obtain ⟨a, b, c, d⟩ := sm_all xs h
  refine ⟨by simpa only [PyData.showable] using a, by simpa only [PyData.hasDict] using b, by simp only [PyData.depth]; omega, ?_⟩
  have l := listText_len_le (PyData.shownAll xs)
  rw [PyData.shownAll_length] at l
  simp only [PyData.shown]
  rw [Nat.mul_add]
  omega
theorem Sm.int {i : Int} (h : i.natAbs < 10 ^ 12) : Sm 13 0 (.int i) := by
  refine ⟨?_, rfl, Nat.le_refl _, PyData.shown_int_le h⟩
  simp only [PyData.showable]
  refine decide_eq_true ?_
  by_cases z : i.natAbs = 0
  · rw [z]; decide
  · exact (Nat.log2_lt z).mpr (Nat.lt_of_lt_of_le h (by decide +kernel))
theorem Sm.big {i : Int} (h : i.natAbs.log2 < 1920) : Sm 1921 0 (.int i) := by
  refine ⟨?_, rfl, Nat.le_refl _, KBL.num_len h⟩
  simp only [PyData.showable]
  exact decide_eq_true h
theorem Sm.bool {b : Bool} : Sm 5 0 (.bool b) := by cases b <;> exact ⟨rfl, rfl, Nat.le_refl _, by decide +kernel⟩
theorem Sm.none : Sm 4 0 .none := ⟨rfl, rfl, Nat.le_refl _, by decide +kernel⟩
theorem Sm.str {z : Str} {n : Nat} (h : (reprText z).length ≤ n) : Sm n 0 (.str z) := ⟨rfl, rfl, Nat.le_refl _, h⟩
theorem r_reprS {K : PySem.W.Frag} {H : Hp} {Q : VK} {v : V} {d : PyData} {n k : Nat} (dp : Dp K H v d) (f : Sm n k d) (hk : k ≤ 60) (hn : n ≤ 1000000) (q : Q (.str d.shown) H) : KG.rRepr K [v] H Q :=
  ⟨v, d, rfl, dp, f.ok, f.nod, Nat.le_trans f.deep hk, Nat.le_trans f.len (Nat.le_trans hn (by decide)), q⟩
/-! ### the pen -/
/-- the pen: its cells, the next index, what is left; room for k draws more -/
def PenC (H : Hp) (p c : Addr) (k : Nat) : Prop := ∃ (ns : List Int) (at_ : Nat) (left : Int),
  H p = some (.lst [.ref c, .int at_, .int left]) ∧ H c = some (.lst (ns.map V.int)) ∧ p ≠ c ∧ ns.length ≤ 63 ∧ at_ + k ≤ 100000
def Keep (p : Addr) (H H' : Hp) : Prop := ∀ b o, H b = some o → b ≠ p → H' b = some o
theorem PenC.mono {H : Hp} {p c : Addr} {j k : Nat} (h : PenC H p c k) (e : j ≤ k) : PenC H p c j := by
  obtain ⟨ns, at_, left, h1, h2, h3, h4, h5⟩ := h
  exact ⟨ns, at_, left, h1, h2, h3, h4, by omega⟩
theorem PenC.up {H H' : Hp} {p c : Addr} {k : Nat} (h : PenC H p c k) (s : Same H H') : PenC H' p c k := by
  obtain ⟨ns, at_, left, h1, h2, h3, h4, h5⟩ := h
  exact ⟨ns, at_, left, s _ _ h1, s _ _ h2, h3, h4, h5⟩
theorem PenC.ne {H : Hp} {p c q : Addr} {k : Nat} (h : PenC H p c k) (n : H q = none) : q ≠ p := by
  obtain ⟨ns, at_, left, h1, h2, h3, h4, h5⟩ := h
  exact (ne_of_none h1 n).symm
theorem PenC.nec {H : Hp} {p c q : Addr} {k : Nat} (h : PenC H p c k) (n : H q = none) : q ≠ c := by
  obtain ⟨ns, at_, left, h1, h2, h3, h4, h5⟩ := h
  exact (ne_of_none h2 n).symm
theorem PenC.keep {H H' : Hp} {p c q : Addr} {k : Nat} (h : PenC H p c k) (s : Keep q H H') (n1 : q ≠ p) (n2 : q ≠ c) : PenC H' p c k := by
  obtain ⟨ns, at_, left, h1, h2, h3, h4, h5⟩ := h
  exact ⟨ns, at_, left, s _ _ h1 n1.symm, s _ _ h2 n2.symm, h3, h4, h5⟩
theorem PenC.lst {H : Hp} {p c : Addr} {k : Nat} (h : PenC H p c k) : ∃ xs, H p = some (.lst xs) := by
  obtain ⟨ns, at_, left, h1, _⟩ := h
  exact ⟨_, h1⟩
theorem PenC.not {H : Hp} {p c b : Addr} {k : Nat} {o : HO} (h : PenC H p c k) (e : H b = some o) (n : ∀ xs, o ≠ .lst xs) : b ≠ p := by
  obtain ⟨xs, h1⟩ := h.lst
  intro z
  rw [z, h1] at e
  exact n xs (Option.some.inj e).symm
def spPen (K : PySem.W.Frag) : Sp := fun vs H Q _ => ∃ (a : Addr) (ns : List Int), vs = [.ref a] ∧ SqL K H a (ns.map V.int) ∧ ns.length ≤ 63 ∧
  ∀ H' p c, Same H H' → H p = none → H c = none → PenC H' p c 100000 → Q (.ref p) H'
def spDraw : Sp := fun vs H Q _ => ∃ (p c : Addr) (many : Int) (k : Nat), vs = [.ref p, .int many] ∧ 0 < many ∧ many < 1000000000 ∧ PenC H p c (k + 1) ∧
  ∀ (r : Int) H', 0 ≤ r → r < many → PenC H' p c k → Keep p H H' → Q (.int r) H'
theorem Keep.tr {p : Addr} {H1 H2 H3 : Hp} (a : Keep p H1 H2) (b : Keep p H2 H3) : Keep p H1 H3 := fun x o e n => b x o (a x o e n) n
theorem Keep.same {p : Addr} {H1 H2 : Hp} (a : Same H1 H2) : Keep p H1 H2 := fun x o e n => a x o e
theorem Keep.refl {p : Addr} {H : Hp} : Keep p H H := fun _ _ e _ => e
open KD
/-- a draw keeps all but lists -/
theorem Keep.sn {p c : Addr} {k : Nat} {H H' : Hp} (s : Keep p H H') (pn : PenC H p c k) : SameN H H' := fun a o e n => s a o e (pn.not e n)
theorem SameN.refl {H : Hp} : SameN H H := fun _ _ e _ => e
theorem SameN.lset {H : Hp} {D : Addr} {xs ys : List V} (h : H D = some (.lst xs)) : SameN H (upd H D (.lst ys)) := fun a o e n => by
  rw [upd_ne (fun z => n xs (by rw [z, h] at e; exact (Option.some.inj e).symm))]
  exact e
theorem SameN.seqT {K : PySem.W.Frag} {H H' : Hp} {a : Addr} {xs : List V} (s : SameN H H') (h : SqT K H a xs) : SqT K H' a xs := by
  rcases h with (h | ⟨o, h⟩) | h
  · exact .inl (.inl (s.tup h))
  · exact .inl (.inr ⟨o, s a _ h fun _ z => by cases z⟩)
  · exact .inr h
theorem Keep.mut {p D : Addr} {H1 H : Hp} {o : HO} (s : Keep p H1 H) (hD : H1 D = none) : Keep p H1 (upd H D o) := fun b o e n => by
  rw [upd_ne (ne_of_none e hD)]
  exact s b o e n
theorem PenC.mut {H : Hp} {p c D : Addr} {k : Nat} {o : HO} (h : PenC H p c k) (n1 : D ≠ p) (n2 : D ≠ c) : PenC (upd H D o) p c k := by
  obtain ⟨ns, at_, left, h1, h2, h3, h4, h5⟩ := h
  exact ⟨ns, at_, left, by rw [upd_ne n1.symm]; exact h1, by rw [upd_ne n2.symm]; exact h2, h3, h4, h5⟩
/-- a comprehension that draws: Kr i: the draws that are left ahead of the i-th element -/
theorem lc_pen {J : It} {n : Nat} {G : Hp → Prop} {Y : Nat → Hp → V → Hp → Prop} (wk : Walk J n G Y) {g : TG} {tt : TT} {te : TE} {vs : List Nat} {σ : L2.St} {H1 : Hp} {Q : VK} {pen c : Addr} (R : Nat → V → Hp → Prop) (Kr : Nat → Nat) (hn : n ≤ 10000) (pn : PenC H1 pen c (Kr 0))
    (up : ∀ i v H H', R i v H → SameN H H' → R i v H') (hG : ∀ H', Keep pen H1 H' → G H')
    (hs : ∀ i x H H' (N : V → Hp → Prop) (B : Hp → Prop), i < n → Keep pen H1 H → PenC H pen c (Kr i) → Y i H x H' → (∀ v H2, Keep pen H H2 → PenC H2 pen c (Kr (i + 1)) → R i v H2 → N v H2) → g x (wipe σ vs) H' fun σ2 H2 => wipe σ2 vs = wipe σ vs ∧ tt σ2 H2 fun b H3 => if b = true then te σ2 H3 N else B H3)
    (hd : ∀ D H' (ys : List V), H1 D = none → Keep pen H1 H' → PenC H' pen c (Kr n) → H' D = some (.lst ys) → ys.length = n → (∀ i v, ys[i]? = some v → R i v H') → Q (.ref D) H') :
    LcW J g tt te vs σ H1 Q := by
  intro D hD
  have dp := pn.ne hD
  have dc := pn.nec hD
  refine lc_it wk (Qd := fun H => Q (.ref D) H) (fun i H => Keep pen H1 H ∧ PenC H pen c (Kr i) ∧ ∃ ys : List V, H D = some (.lst ys) ∧ ys.length = i ∧ ∀ j v, ys[j]? = some v → R j v H) ⟨Keep.same (same_new hD), pn.up (same_new hD), [], upd_same, rfl, fun j v e => by simp at e⟩ (fun i H _ p => hG H p.1) (fun i x H H' hi p y => ?_) (fun H p => ?_)
  · obtain ⟨sm, pi, ys, hy, hl, hR⟩ := p
    refine hs i x H H' _ _ hi sm pi y (fun v H2 k2 p2 r => ?_)
    have e2 := k2 _ _ hy dp
    refine ⟨ys, e2, small1000' (by omega), (sm.tr k2).mut hD, p2.mut dp dc, ys ++ [v], upd_same, by simp [hl], fun j w e => ?_⟩
    by_cases hj : j < ys.length
    · rw [List.getElem?_append_left hj] at e
      exact up _ _ _ _ (hR j w e) ((k2.sn pi).trans (SameN.lset e2))
    · rw [List.getElem?_append_right (by omega)] at e
      have h0 : j - ys.length = 0 := by
        cases z : j - ys.length with
        | zero => rfl
        | succ m => rw [z] at e; simp at e
      rw [h0] at e
      have ew : v = w := Option.some.inj e
      subst ew
      have ej : j = i := by omega
      subst ej
      exact up _ _ _ _ r (SameN.lset e2)
  · obtain ⟨sm, pi, ys, hy, hl, hR⟩ := p
    exact hd D H ys hD sm pi hy hl hR
theorem walk_zipT {K : PySem.W.Frag} {a b : Addr} {xs ys : List V} {n : Nat} (hn : n = min xs.length ys.length) : Walk (RZ.ItzT K a b) n (fun H => SqT K H a xs ∧ SqT K H b ys) (YPair (fun i => xs[i]?) (fun i => ys[i]?)) := by
  subst hn
  refine ⟨fun i _ hi q => ?_, fun _ q => ⟨xs, ys, q.1, q.2, by omega⟩, fun i H v H' _ q y => ?_⟩
  · have h1 : i < xs.length := by omega
    have h2 : i < ys.length := by omega
    exact ⟨xs, ys, xs[i], ys[i], q.1, q.2, by simp [h1], by simp [h2]⟩
  · obtain ⟨T, x, z, h1, h2, h3, h4, h5⟩ := y
    exact ⟨T, x, z, h1, h2, h3, h4 xs q.1, h5 ys q.2⟩
/-- f(e, ..) where the keyword-only parameters lack: their defaults -/
theorem kbn_def {K : PySem.W.Frag} {x qual : Str} {params : Arguments} {body : List Stmt} {scope : Scope} {kws : List (Str × V)} {f : Addr} {fd : FuncData} {ps : List Str} (F : FunD K x qual params body scope [] kws f fd) (n : Nat) (hk : kws ≠ []) (hn : n + kws.length = ps.length)
    (h : ∀ (D : Addr) (doc pm : Value) (an : Option Addr) (cdv ct : Value) (us ks : List Value), us.length = n → ks.length = kws.length →
      KwChain D ((kws.map (·.1)).zip ks) (bindArgs (PySem.W.fnOf x qual params body scope .none (.ref D) doc pm an cdv ct) ⟨us, []⟩) (ps.zip (us ++ ks))) : ∃ gg : List Value → List Value → List Value, KBn K fd ps n [] gg (fun vs _ => vs ++ kws.map (·.2)) := by
  obtain ⟨ds, rd, bd⟩ := F.binds0 n hk hn h
  have ld : ds.length = kws.length := by have := rd.length; simpa using this.symm
  refine ⟨fun us _ => us ++ ds, fun s us ws X l1 l2 => ?_, fun r1 _ => r1.append rd⟩
  exact bd s us X (by rw [List.length_append]; omega)
theorem r_zipA {K : PySem.W.Frag} {σ : L2.St} {H : Hp} {ta : TA} {R : It → Hp → Prop} (q : ta σ H fun vs H1 => ∃ a b xs ys, vs = [.ref a, .ref b] ∧ ((SqL K H1 a xs ∧ SqL K H1 b ys ∧ R (Itz K a b) H1) ∨ (SqT K H1 a xs ∧ SqT K H1 b ys ∧ R (RZ.ItzT K a b) H1))) : RZ.iZipA K ta σ H R := q
theorem atI_mem {α : Type} {xs : List α} {r : Int} (h0 : 0 ≤ r) (h1 : r < (xs.length : Int)) : ∃ x ∈ xs, atI xs r = some x := by
  obtain ⟨n, rfl⟩ : ∃ n : Nat, r = (n : Int) := ⟨r.toNat, by omega⟩
  have hl : n < xs.length := by omega
  exact ⟨xs[n], List.getElem_mem hl, atI_nat (by simp [hl])⟩
/-- what all elements are, as one list -/
theorem choose_list {α : Type} {f : α → V} {Pr : Nat → α → Prop} : ∀ (ys : List V), (∀ (i : Nat) (v : V), ys[i]? = some v → ∃ a, Pr i a ∧ v = f a) → ∃ as : List α, ys = as.map f ∧ as.length = ys.length ∧ ∀ (i : Nat) (a : α), as[i]? = some a → Pr i a
  | ys, h => by
    induction ys generalizing Pr with
    | nil => exact ⟨[], rfl, rfl, fun i a e => by simp at e⟩
    | cons y ys ih =>
      obtain ⟨a, pa, rfl⟩ := h 0 y rfl
      obtain ⟨as, rfl, l, q⟩ := ih (Pr := fun i a => Pr (i + 1) a) fun i v e => h (i + 1) v e
      refine ⟨a :: as, rfl, by simp, fun i b e => ?_⟩
      cases i with
      | zero => cases e; exact pa
      | succ i => exact q i b e
def sign (c : Nat) : Str := ⟨#[c]⟩
theorem str_ext {a b : Str} (h : a.cps.toList = b.cps.toList) : a = b := by
  cases a; cases b
  congr 1
  exact Array.toList_inj.mp h
theorem append_toList (a b : Str) : (a ++ b).cps.toList = a.cps.toList ++ b.cps.toList := Array.toList_append
theorem join_signs : ∀ cs : List Nat, (Str.join ⟨#[]⟩ (cs.map sign)).cps.toList = cs
  | [] => rfl
  | [c] => rfl
  | c :: d :: r => by
    show (sign c ++ (⟨#[]⟩ : Str) ++ Str.join ⟨#[]⟩ ((d :: r).map sign)).cps.toList = c :: d :: r
    rw [append_toList, append_toList, join_signs (d :: r)]
    rfl
theorem sum_signs (cs : List Nat) : ((cs.map sign).map (·.length)).sum = cs.length := by
  induction cs with
  | nil => rfl
  | cons c r ih =>
    rw [List.map_cons, List.map_cons, List.sum_cons, ih, List.length_cons]
    show 1 + r.length = _
    omega
end KV

/-! KW: o op= v by an own operator without an in-place form; ~o; a property read. -/
namespace KW
open PySem PySem.Spec PyProof.Rows L2 KB KG KO KY KR
section
variable {prog : Program} {w : World} {A : Around} {E : Value → Shared → Prop} {s : Shared} {K : PySem.W.Frag} {x C L g g2 : Addr} {hb : Heap} {m : Str → Option Value} {ox : Obj} {od : Option Obj} {T : String} {nm : String}
open PySem.W in
theorem fillsI_no {M : Model} {h : Heap} {cd : ClassData} {add : Bool} (X : K.In h) (hc : clsIn K C = some cd) (hm : cd.mro = [.ref C, .type "object"]) (h1 : findIn K (.ref C) (dunderI nm) = some none) (h2 : findIn K (.type "object") (dunderI nm) = some none) : Looks M h (fillsInplaceSlot (.ref C) nm add) false := by
  intro A Q E s k q
  have Lm : Looks M h (mroOf (.ref C)) cd.mro := (looks_clsIn X hc).andThen (f := fun cd => pure cd.mro) .now
  have Lm' := Lm.keeps k
  obtain ⟨hh, g, d, tt, os⟩ := s
  have X' : K.In hh := X.keeps k
  have L1 : Looks M hh (typeLookup (.ref C) (dunderI nm)) none := looks_findIn X' h1
  have L2 : Looks M hh (typeLookup (.type "object") (dunderI nm)) none := looks_findIn X' h2
  unfold fillsInplaceSlot
  refine wpAny_bind (Lm'.at ?_)
  rw [hm, List.anyM_cons]
  refine wpAny_bind ?_
  refine wpAny_bind (L1.at ?_)
  refine wpAny_pure ?_
  simp only [Bool.false_eq_true, if_false]
  rw [List.anyM_cons]
  refine wpAny_bind ?_
  refine wpAny_bind (L2.at ?_)
  refine wpAny_pure ?_
  simp only [Bool.false_eq_true, if_false]
  exact wpAny_pure q
open PySem.W in
/-- o op= v -/
theorem in_left {op : Operator} {v : Value} {fo ro rc : Option Value} {Z : Value → Shared → Prop} (F : Fr hb L s.heap m) (X0 : K.In hb) (I : InstAt s.heap x ox C od) (lv : Looks (model prog w) s.heap (typeOf v) (.type T)) (c1 : ∃ cd, clsIn K C = some cd ∧ cd.mro = [.ref C, .type "object"])
    (c2 : findIn K (.ref C) (PySem.dunder op.info.2) = some (some (.ref g))) (c3 : isFn K (.ref g) = true) (c4 : findIn K (.ref C) (dunderR op.info.2) = some rc) (c5 : rc = none ∨ ∃ z : Addr, rc = some (.ref z))
    (c6 : findIn K (.type T) (PySem.dunder op.info.2) = some fo) (c7 : findIn K (.type T) (dunderR op.info.2) = some ro) (c8 : subIn K (.type T) (.ref C) = some false)
    (c9 : findIn K (.ref C) (dunderI op.info.2) = some none) (c10 : findIn K (.type "object") (dunderI op.info.2) = some none)
    (go : wpAny (model prog w) A (call (.ref g) [.ref x, v]) (PySem.W.CmpBack Z) E s) : wpAny (model prog w) A (inplaceOp op (.ref x) v) Z E s := by
  have XK := X0.keeps F.keep
  obtain ⟨cd, hcd, hmro⟩ := c1
  rcases oi : op.info with ⟨sy, n1⟩
  rw [oi] at c2 c4 c6 c7 c9 c10
  dsimp only at c2 c4 c6 c7 c9 c10
  have once := ksp_try XK I c2 c3 go
  obtain ⟨sh, sg, sd, stk, sos⟩ := s
  have k1 : Looks (model prog w) sh (typeOf (.ref x)) (.ref C) := I.type
  have k2 : Looks (model prog w) sh (typeOf v) (.type T) := lv
  have k0 : Looks (model prog w) sh (fillsInplaceSlot (.ref C) n1 (op == .Add)) false := fillsI_no XK hcd hmro c9 c10
  have k3 : Looks (model prog w) sh (fillsNumberSlot (.ref C) n1) true := fills_K XK hcd hmro c2
  have k4 : Looks (model prog w) sh (fillsNumberSlot (.type T) n1) _ := ksp_fillsT XK c6 c7
  have k5 : Looks (model prog w) sh (isSubtype (.type T) (.ref C)) false := looks_subIn XK c8
  have k6 : Looks (model prog w) sh (numberSlotInPython (.ref C) n1) true := ksp_inPy XK c2 c4 c5
  have k7 : Looks (model prog w) sh (numberSlotInPython (.type T) n1) false := Looks.of_pure rfl
  have k8 : Looks (model prog w) sh (typeLookup (.type T) (dunderR n1)) ro := looks_findIn XK c7
  revert k4
  generalize ((fo.isSome && !isSeqSlot fo) || (ro.isSome && !isSeqSlot ro)) = rt
  intro k4
  have nq : (Value.ref C == Value.type T) = false := Bool.eq_false_iff.mpr fun q => by cases beq_iff_eq.mp q
  unfold inplaceOp
  simp only [oi]
  refine wpAny_holding ?_
  refine wpAny_bind (k1.at ?_)
  refine wpAny_bind (k0.at ?_)
  simp only [Bool.false_eq_true, if_false]
  refine wpAny_bind ?_
  unfold binaryOp1
  refine wpAny_bind (k1.at (wpAny_bind (k2.at (wpAny_bind (k3.at ?_)))))
  simp only [nq, Bool.false_eq_true, if_false]
  cases rt
  all_goals
    ksp_lk
    refine wpAny_mono once (fun r s' y => ?_) fun _ _ e => e
    obtain ⟨v', rfl, hq⟩ := y
    ksp_lk
    exact hq
end
section
variable {X : Cx} {pins : List (Addr × Obj)} {σ : L2.St} {H : Hp} {st : Shared}
structure OwnIn (P : Program) (w : World) (K : PySem.W.Frag) (mg : Str → Option Value) (base : Heap) (CX : CXT) (k : Nat) (C : Addr) (op : Operator) (ps : List Str) (sp : Sp) : Prop where
  ex : ∃ (g : Addr) (fd : FuncData) (rc fo ro : Option Value), (∃ cd, PySem.W.clsIn K C = some cd ∧ cd.mro = [.ref C, .type "object"]) ∧ PySem.W.findIn K (.ref C) (PySem.dunder op.info.2) = some (some (.ref g)) ∧ PySem.W.isFn K (.ref g) = true ∧ PySem.W.findIn K (.ref C) (dunderR op.info.2) = some rc ∧ (rc = none ∨ ∃ g : Addr, rc = some (.ref g)) ∧
    PySem.W.findIn K (.type "int") (PySem.dunder op.info.2) = some fo ∧ PySem.W.findIn K (.type "int") (dunderR op.info.2) = some ro ∧ PySem.W.subIn K (.type "int") (.ref C) = some false ∧ PySem.W.findIn K (.ref C) (dunderI op.info.2) = some none ∧ PySem.W.findIn K (.type "object") (dunderI op.info.2) = some none ∧
    FnOk P w K mg base CX k g fd ps sp ∧ Binds K fd ps []
/-- x op= v, v an int -/
def tipO (C : Addr) (sp : Sp) (E : XK) : TIp := fun x y H Q => ∃ (a dx : Addr) (fs : List (Str × V)) (i : Int), x = .ref a ∧ H a = some (.ins C dx fs) ∧ y = .int i ∧ sp [x, y] H Q E
theorem ip_own {CX : CXT} {E : XK} {C : Addr} {op : Operator} {ps : List Str} {sp : Sp} {n : Nat} (c : OwnIn X.prog X.w X.K X.mg X.base CX n C op ps sp) (room : Room n X.A) (pass : Passes CX X E) : PIp X op (tipO C sp E) := by
  obtain ⟨g, fd, rc, fo, ro, c1, c2, c3, c4, c5, c6, c7, c8, c9, c10, F, bind⟩ := c.ex
  intro pins st σ h x y v u Z inv rx ry pre
  obtain ⟨a, dx, fs, i, rfl, ha, rfl, z⟩ := pre
  obtain rfl : v = Value.ref a := rx
  obtain ⟨tk, rfl⟩ := (show ∃ t, u = Value.int i t from ry)
  obtain ⟨od, J⟩ := inst_of inv ha
  obtain ⟨m, hF⟩ := inv.fr
  refine in_left (T := "int") hF inv.ok.mod.kin J (PySem.W.Looks.of_pure rfl) c1 c2 c3 c4 c5 c6 c7 c8 c9 c10 ?_
  refine wpAny_mono (run_fn (us := [.ref a, .int i tk]) (vs := [.ref a, .int i]) F room bind .nil pass inv (.cons rfl (.cons ⟨tk, rfl⟩ .nil)) z) (fun w s2 r => ?_) fun _ _ z => z
  obtain ⟨z', h2, inv2, rz, qz⟩ := r
  exact SlX.cmpback rz ⟨z', h2, inv2, rz, qz⟩
structure OwnU (P : Program) (w : World) (K : PySem.W.Frag) (mg : Str → Option Value) (base : Heap) (CX : CXT) (k : Nat) (C : Addr) (ps : List Str) (sp : Sp) : Prop where
  ex : ∃ (g : Addr) (fd : FuncData), PySem.W.findIn K (.ref C) "__invert__" = some (some (.ref g)) ∧ PySem.W.isFn K (.ref g) = true ∧ FnOk P w K mg base CX k g fd ps sp ∧ Binds K fd ps []
def rUnO (C : Addr) (sp : Sp) (E : XK) : V → Hp → VK → Prop := fun x H Q => ∃ (a dx : Addr) (fs : List (Str × V)), x = .ref a ∧ H a = some (.ins C dx fs) ∧ sp [x] H Q E
theorem un_invO {CX : CXT} {E : XK} {C : Addr} {ps : List Str} {sp : Sp} {n : Nat} (c : OwnU X.prog X.w X.K X.mg X.base CX n C ps sp) (room : Room n X.A) (pass : Passes CX X E) : UnR X (unaryOp .Invert) (rUnO C sp E) := by
  obtain ⟨g, fd, c1, c2, F, bind⟩ := c.ex
  intro pins st σ h x v Z inv rx pre
  obtain ⟨a, dx, fs, rfl, ha, z⟩ := pre
  obtain rfl : v = Value.ref a := rx
  obtain ⟨od, J⟩ := inst_of inv ha
  obtain ⟨m, hF⟩ := inv.fr
  refine PySem.W.ksp_inv hF inv.ok.mod.kin J c1 c2 ?_
  exact run_fn (us := [.ref a]) (vs := [.ref a]) F room bind .nil pass inv (.cons rfl .nil) z
structure OwnP (P : Program) (w : World) (K : PySem.W.Frag) (mg : Str → Option Value) (base : Heap) (k : Nat) (C : Addr) (f : Str) (ps : List Str) (sp : Sp) : Prop where
  ex : ∃ (p g : Addr) (fd : FuncData), PropOf K C f p g ∧ FnOk P w K mg base CX0 k g fd ps sp ∧ Binds K fd ps []
  cl : Cls K C
theorem pe_propO {C : Addr} {f : Str} {ps : List Str} {sp : Sp} {n : Nat} {e : Expr} {pos : Pos} {ta : TE} (c : OwnP X.prog X.w X.K X.mg X.base n C f ps sp) (he : PE X e ta) (room : Room (n + 1) X.A)
    (hab : attributeBase e f X.env (eval e X.env) = eval e X.env := by rfl) : PE X (.Attribute e f pos) (tProp C sp [] E0 ta) := by
  obtain ⟨p, g, fd, hp, F, hb⟩ := c.ex
  exact pe_prop he c.cl hp F room hb .nil pass0 hab
theorem r_prop {σ : L2.St} {H : Hp} {Q : VK} {C : Addr} {sp : Sp} {E : XK} {ta : TE} (q : ta σ H fun x H1 => ∃ a dx fs, x = .ref a ∧ H1 a = some (.ins C dx fs) ∧ sp [.ref a] H1 Q E) : tProp C sp [] E ta σ H Q := q
end
/-! ### lists of pairs of ints -/
def PairsAt (H : Hp) (ys : List V) (ps : List (Int × Int)) : Prop := ys.length = ps.length ∧ ∀ (i : Nat) (v : V) (p : Int × Int), ys[i]? = some v → ps[i]? = some p → ∃ a, v = .ref a ∧ H a = some (.tup [.int p.1, .int p.2])
theorem PairsAt.sn {H H' : Hp} {ys : List V} {ps : List (Int × Int)} (h : PairsAt H ys ps) (s : KD.SameN H H') : PairsAt H' ys ps := ⟨h.1, fun i v p h1 h2 => by
  obtain ⟨a, e1, e2⟩ := h.2 i v p h1 h2
  exact ⟨a, e1, s.tup e2⟩⟩
theorem PairsAt.up {H H' : Hp} {ys : List V} {ps : List (Int × Int)} (h : PairsAt H ys ps) (s : Same H H') : PairsAt H' ys ps := h.sn (KD.SameN.of s)
theorem PairsAt.nil {H : Hp} : PairsAt H [] [] := ⟨rfl, fun i v p h1 _ => by simp at h1⟩
theorem PairsAt.append {H : Hp} {ys zs : List V} {ps qs : List (Int × Int)} (h : PairsAt H ys ps) (g : PairsAt H zs qs) : PairsAt H (ys ++ zs) (ps ++ qs) := by
  refine ⟨by simp [h.1, g.1], fun i v p h1 h2 => ?_⟩
  by_cases lt : i < ys.length
  · rw [List.getElem?_append_left lt] at h1
    rw [List.getElem?_append_left (by rw [← h.1]; exact lt)] at h2
    exact h.2 i v p h1 h2
  · rw [List.getElem?_append_right (by omega)] at h1
    rw [List.getElem?_append_right (by rw [← h.1]; omega), ← h.1] at h2
    exact g.2 _ v p h1 h2
theorem PairsAt.one {H : Hp} {a : Addr} {p : Int × Int} (e : H a = some (.tup [.int p.1, .int p.2])) : PairsAt H [.ref a] [p] := by
  refine ⟨rfl, fun i v q h1 h2 => ?_⟩
  cases i with
  | zero => cases h1; cases h2; exact ⟨a, rfl, e⟩
  | succ i => simp at h1
theorem PairsAt.snoc {H : Hp} {ys : List V} {ps : List (Int × Int)} {a : Addr} {p : Int × Int} (h : PairsAt H ys ps) (e : H a = some (.tup [.int p.1, .int p.2])) : PairsAt H (ys ++ [.ref a]) (ps ++ [p]) := h.append (.one e)
theorem PairsAt.tail {H : Hp} {y : V} {p : Int × Int} {ys : List V} {ps : List (Int × Int)} (h : PairsAt H (y :: ys) (p :: ps)) : PairsAt H ys ps := ⟨by simpa using h.1, fun i v q h1 h2 => h.2 (i + 1) v q h1 h2⟩
def dPair (p : Int × Int) : PyData := .tuple [.int p.1, .int p.2]
def dPairs (ps : List (Int × Int)) : PyData := .list (ps.map dPair)
theorem PairsAt.dp {K : PySem.W.Frag} {H : Hp} : ∀ {ys : List V} {ps : List (Int × Int)}, PairsAt H ys ps → DpAll K H ys (ps.map dPair)
  | [], [], _ => .nil
  | [], _ :: _, h => by have := h.1; simp at this
  | _ :: _, [], h => by have := h.1; simp at this
  | y :: ys, p :: ps, h => by
    obtain ⟨a, rfl, e⟩ := h.2 0 y p rfl rfl
    exact .cons (.tup (SqT.of e) (.cons (.int _) (.cons (.int _) .nil))) (PairsAt.dp h.tail)
theorem sm_pair {p : Int × Int} (h1 : p.1.natAbs < 10 ^ 12) (h2 : p.2.natAbs < 10 ^ 12) : KV.Sm 33 1 (dPair p) := by
  refine (KV.Sm.tuple (n := 13) (k := 0) (xs := [.int p.1, .int p.2]) fun y my => ?_).mono (by simp) (Nat.le_refl _)
  rcases List.mem_cons.mp my with rfl | my
  · exact KV.Sm.int h1
  · rw [List.mem_singleton.mp my]
    exact KV.Sm.int h2
theorem sm_pairs {ps : List (Int × Int)} (h : ∀ p ∈ ps, p.1.natAbs < 10 ^ 12 ∧ p.2.natAbs < 10 ^ 12) (l : ps.length ≤ 2000) : KV.Sm 70003 2 (dPairs ps) := by
  refine (KV.Sm.list (n := 33) (k := 1) (xs := ps.map dPair) fun x m => ?_).mono (by rw [List.length_map]; omega) (Nat.le_refl _)
  obtain ⟨p, hp, rfl⟩ := List.mem_map.mp m
  exact sm_pair (h p hp).1 (h p hp).2
/-- the pair that a value is -/
noncomputable def pairV (H : Hp) (v : V) : Int × Int := match v with
  | .ref a => match H a with
    | some (.tup [.int i, .int j]) => (i, j)
    | _ => (0, 0)
  | _ => (0, 0)
theorem pairV_at {H : Hp} {a : Addr} {p : Int × Int} (e : H a = some (.tup [.int p.1, .int p.2])) : pairV H (.ref a) = p := by
  simp only [pairV, e]
theorem PairsAt.map {H : Hp} : ∀ {ys : List V} {ps : List (Int × Int)}, PairsAt H ys ps → ys.map (pairV H) = ps ∧ ∀ y ∈ ys, ∃ t, y = .ref t ∧ H t = some (.tup [.int (pairV H y).1, .int (pairV H y).2])
  | [], [], _ => ⟨rfl, fun y m => (List.not_mem_nil m).elim⟩
  | [], _ :: _, h => by have := h.1; simp at this
  | _ :: _, [], h => by have := h.1; simp at this
  | y :: ys, p :: ps, h => by
    obtain ⟨a, rfl, e⟩ := h.2 0 y p rfl rfl
    obtain ⟨m1, m2⟩ := PairsAt.map h.tail
    have e2 := pairV_at e
    refine ⟨by rw [List.map_cons, e2, m1], fun z m => ?_⟩
    rcases List.mem_cons.mp m with rfl | m
    · exact ⟨a, rfl, by rw [e2]; exact e⟩
    · exact m2 z m
/-- sorted(xs) of pairs that ascend already -/
theorem r_sortedUp {K : PySem.W.Frag} {H : Hp} {Q : VK} {a : Addr} {xs : List V} {ps : List (Int × Int)} (sq : SqL K H a xs) (pa : PairsAt H xs ps) (asc : ps.Pairwise fun p q => p.1 < q.1) (q : ∀ p, H p = none → Q (.ref p) (upd H p (.lst xs))) : rSortedPO K [.ref a] H Q := by
  obtain ⟨m1, m2⟩ := pa.map
  refine ⟨a, xs, pairV H, rfl, sq, m2, fun ys p so st np => ?_⟩
  have asc2 : xs.Pairwise fun x y => (pairV H x).1 < (pairV H y).1 := by
    rw [← m1] at asc
    exact (List.pairwise_map (R := fun p q : Int × Int => p.1 < q.1)).mp asc
  have inj : ∀ x ∈ xs, ∀ y ∈ xs, (pairV H x).1 = (pairV H y).1 → x = y := by
    have key : ∀ l : List V, (l.Pairwise fun x y => (pairV H x).1 < (pairV H y).1) → ∀ x ∈ l, ∀ y ∈ l, (pairV H x).1 = (pairV H y).1 → x = y := by
      intro l
      induction l with
      | nil => intro _ x hx; exact (List.not_mem_nil hx).elim
      | cons z l ih =>
        intro pw x hx y hy e
        obtain ⟨p1, p2⟩ := List.pairwise_cons.mp pw
        rcases List.mem_cons.mp hx with rfl | hx2 <;> rcases List.mem_cons.mp hy with rfl | hy2
        · rfl
        · have := p1 y hy2; omega
        · have := p1 x hx2; omega
        · exact ih p2 x hx2 y hy2 e
    exact key xs asc2
  have le_no : ∀ {x y : V}, ltP (pairV H) y x = false → (pairV H x).1 ≤ (pairV H y).1 := fun {x y} h => by
    have z := SrtO.lexB_no.mp h
    omega
  have e : ys = xs := by
    refine List.Perm.eq_of_pairwise (le := fun x y => (pairV H x).1 ≤ (pairV H y).1) (fun x y hx hy h1 h2 => ?_) ?_ ?_ st.perm
    · exact inj x (st.perm.mem_iff.mp hx) y hy (by omega)
    · exact List.Pairwise.imp (fun {x y} h => le_no h) so
    · exact asc2.imp fun h => by omega
  rw [e]
  exact q p np
end KW

/-! KN: methods of own classes that say super().m(..) at their own level (in a statement of the body, in an if, in a return). -/
namespace KN
open PySem PySem.Spec PyProof.Rows L2 KB KG KO
/-! ### binding by position -/
theorem lookup_nd {y : Str} {u : Value} : ∀ {l : List (Str × Value)}, (l.map (·.1)).Nodup → (y, u) ∈ l → l.lookup y = some u
  | [], _, m => by cases m
  | (k, v) :: l, nd, m => by
    obtain ⟨h1, h2⟩ := List.nodup_cons.mp nd
    rcases List.mem_cons.mp m with e | m
    · cases e
      simp [List.lookup]
    · have hk : (y == k) = false := by
        refine Bool.eq_false_iff.mpr fun z => h1 ?_
        rw [← beq_iff_eq.mp z]
        exact List.mem_map.mpr ⟨_, m, rfl⟩
      rw [List.lookup, hk]
      exact lookup_nd h2 m
theorem zip_fst : ∀ {ps : List Str} {us : List Value}, ps.length = us.length → (ps.zip us).map (·.1) = ps
  | [], [], _ => rfl
  | [], _ :: _, h => by simp at h
  | _ :: _, [], h => by simp at h
  | p :: ps, u :: us, h => by
    rw [List.zip_cons_cons, List.map_cons, zip_fst (by simpa using h)]
theorem zip_get {ps : List Str} {us : List Value} {i : Nat} {y : Str} {u : Value} (h1 : ps[i]? = some y) (h2 : us[i]? = some u) : (y, u) ∈ ps.zip us := by
  refine List.mem_of_getElem? (i := i) ?_
  rw [List.getElem?_zip_eq_some]
  exact ⟨h1, h2⟩
/-- a scope of such a def -/
structure SScope (N ps : List Str) (sc : Scope) : Prop where
  kind : sc.kind = .function
  co : sc.isCoroutine = false
  gen : sc.isGenerator = false
  nd : N.Nodup
  pre : N.take ps.length = ps
  par : ∀ x ∈ ps, sc.names.lookup x = some .local
  nocell : ∀ y ∈ sc.names, y.2 ≠ .cell
  nofree : ∀ y ∈ sc.names, y.2 = .free → y.1 = "__class__"
  sup : sc.names.lookup ("super" : Str) = some .globalImplicit
  cls : sc.names.lookup ("__class__" : Str) = some .free
theorem SScope.free {N ps : List Str} {sc : Scope} (S : SScope N ps sc) : ∀ y, sc.names.lookup y = some .free → y = "__class__" := fun y e => S.nofree (y, .free) (PySem.mem_of_lookup e) rfl
theorem inv_supN {CXx : CXT} {P : Program} {w : World} {K : PySem.W.Frag} {mg : Str → Option Value} {base : Heap} {N ps : List Str} {ql : Str} {sc : Scope} {f cda cc : Addr} {A : Around} {out : List Env} {st : Shared} {h : Hp} {W : XK} {us : List Value} {vs : List V} {h1 : Heap} {tk : Nat} {cl : Value} {cld : Option Addr} {csl : Array (Option Value)} {cv : Option Value}
    (S : SScope N ps sc) (e0 : Env0 P w K mg base A out st h) (hd : A.handled = none) (hl : vs.length = ps.length)
    (hc : K.lookup cc = some ⟨cl, cld, .cell cv, csl⟩) (hns : h1.Ns st.heap.objs.size (fun y => (ps.zip us).reverse.lookup y)) (kp : ∀ b o, st.heap.get? b = some o → h1.get? b = some o) (r : Vals vs us) :
    Inv (KX.supCx CXx P w K mg base N ql sc f cda cc A out st h W) [] (L2.start N vs) h { st with heap := h1, toks := tk } := by
  have noA : ∀ b : Addr, b ∉ (KX.supCx CXx P w K mg base N ql sc f cda cc A out st h W).ex := fun b z => absurd (show b ∈ ([] : List Addr) from z) (by simp)
  have ccb := e0.bs _ _ (e0.mod.kin _ _ hc)
  have hpl : ps.length ≤ N.length := by have := congrArg List.length S.pre; rw [List.length_take] at this; omega
  refine ⟨⟨e0.mod, S.kind, rfl, rfl, Nat.le_refl _, fun y z c a b => (KX.cls_only a).1.trans (KX.cls_only b).1.symm, fun y hy => ?_, fun y c z _ => ?_, fun _ => hd, Around.frames_deeper e0.frames, .inr ⟨rfl, rfl⟩, fun b z => absurd z (noA b), e0.bs, e0.bsz, fun b _ _ => noA b, fun b z => absurd z (noA b), e0.funs, e0.frf⟩,
    rfl, e0.bare, Un.kept kp, ⟨_, hns, fun i y v a b c => ?_⟩, fun y c e => ?_, e0.hok.fresh (Nat.le_refl _), fun y c e => ?_, fun p hp => absurd (show p ∈ ([] : List (Addr × Obj)) from hp) (by simp), e0.hok.kept kp, ?_⟩
  · have hy : sc.names.lookup y = some .cell ∨ sc.names.lookup y = some .free := hy
    rcases hy with hy | hy
    · exact absurd rfl (S.nocell _ (PySem.mem_of_lookup hy))
    · rw [S.free y hy]
      exact ⟨cc, rfl⟩
  · have z : false = true := z
    cases z
  · have hi : i < vs.length := by
      unfold L2.start at b
      by_cases hi : i < vs.length
      · exact hi
      · rw [List.getElem?_append_right (by simpa using hi)] at b
        rw [List.getElem?_replicate] at b
        split at b <;> cases b
    have ha : vs[i]? = some v := by
      unfold L2.start at b
      rw [List.getElem?_append_left (by simpa using hi), List.getElem?_map] at b
      cases e : vs[i]? with
      | none => rw [e] at b; cases b
      | some a => rw [e] at b; cases b; rfl
    obtain ⟨u, hu, rv⟩ := r.get ha
    have hp : ps[i]? = some y := by
      rw [← S.pre, List.getElem?_take_of_lt (by omega)]; exact a
    have ndP : ps.Nodup := by rw [← S.pre]; exact S.nd.sublist (List.take_sublist _ _)
    refine ⟨u, rv, .inl ⟨S.par y (List.mem_of_getElem? hp), ?_⟩⟩
    refine lookup_nd ?_ (List.mem_reverse.mpr (zip_get hp hu))
    rw [List.map_reverse, zip_fst (by rw [← r.length, hl])]
    exact List.pairwise_reverse.mpr (List.Pairwise.imp Ne.symm ndP)
  · obtain ⟨rfl, rfl⟩ := KX.cls_only e
    exact ⟨cv, _, kp _ _ ccb.1, rfl⟩
  · obtain ⟨rfl, rfl⟩ := KX.cls_only e
    exact ccb.2
  · unfold L2.start
    show _ = N.length
    rw [List.length_append, List.length_map, List.length_replicate]
    omega
/-! ### statements at the def's own level -/
structure PEA (X : Cx) (c : Code) (e : Expr) (t : TE) : Prop where
  run : ∀ (pins : List (Addr × Obj)) (s : Shared) (σ : L2.St) (H : Hp) (Q : VK), Inv X pins σ H s → t σ H Q → _root_.PySem.wpAt (model X.prog X.w) X.A c (eval e X.env) (EP X pins σ Q) X.xe s
structure PSA (X : Cx) (c : Code) (st : Stmt) (t : TS) : Prop where
  run : ∀ (pins : List (Addr × Obj)) (s : Shared) (σ : L2.St) (H : Hp) (D : Ends), Inv X pins σ H s → t D σ H → _root_.PySem.wpAt (model X.prog X.w) X.A c (exec st X.env) (SP X pins D) X.xe s
structure PSsA (X : Cx) (c : Code) (st : List Stmt) (t : TS) : Prop where
  run : ∀ (pins : List (Addr × Obj)) (s : Shared) (σ : L2.St) (H : Hp) (D : Ends), Inv X pins σ H s → t D σ H → _root_.PySem.wpAt (model X.prog X.w) X.A c (execs st X.env) (SP X pins D) X.xe s
section
variable {X : Cx} {c : Code} {st : Stmt} {rest : List Stmt} {t u : TS} {e : Expr} {te : TE} {pos : Pos}
theorem psa_any (h : PS X st t) : PSA X c st t := ⟨fun pins s σ H D I q => wpAt_of_wpAny (h.run pins s σ H D I q)⟩
theorem pssa_any (h : PSs X rest t) : PSsA X c rest t := ⟨fun pins s σ H D I q => wpAt_of_wpAny (h.run pins s σ H D I q)⟩
theorem pssa_cons (a : PSA X c st t) (b : PSsA X c rest u) : PSsA X c (st :: rest) (tSeq t u) := by
  refine ⟨fun pins s σ H D I q => ks_wpAt_execs_cons (PySem.wpAt_mono (a.run pins s σ H { D with nx := fun σ' H' => u D σ' H' } I q) (fun f s' z => ?_) fun _ _ z => z)⟩
  cases f with
  | next => obtain ⟨σ', H', J, q'⟩ := z; exact b.run pins s' σ' H' D J q'
  | brk => exact z
  | cont => exact z
  | ret u => exact z
theorem pssa_one (a : PSA X c st t) : PSsA X c [st] t := by
  refine ⟨fun pins s σ H D I q => ks_wpAt_execs_cons (PySem.wpAt_mono (a.run pins s σ H D I q) (fun f s' z => ?_) fun _ _ z => z)⟩
  cases f with
  | next => obtain ⟨σ', H', J, q'⟩ := z; exact wpAt_of_wpAny (pss_nil.run pins s' σ' H' D J q')
  | brk => exact z
  | cont => exact z
  | ret u => exact z
theorem psa_ret (he : PEA X c e te) : PSA X c (.Return (some e) pos) (tRet te) := by
  refine ⟨fun pins s σ H D I q => ks_wpAt_Return_some (PySem.wpAt_mono (he.run pins s σ H _ I q) (fun v s' z => ?_) fun _ _ z => z)⟩
  obtain ⟨x, H', J, r, q'⟩ := z
  exact ⟨x, σ, H', J, r, q'⟩
theorem psa_set {i : Nat} {x : Str} {pos' : Pos} (hN : X.N.Nodup) (hi : X.N[i]? = some x) (hx : X.env.scope.names.lookup x = some .local) (he : PEA X c e te) (hs : swapsWith e (some (.Name x pos')) pos.line X.env = pure false := by rfl) : PSA X c (.Assign [.Name x pos'] e pos) (tAsg te (gName i)) := by
  refine ⟨fun pins s σ H D I q => ks_wpAt_Assign_Name (PySem.wpAt_mono (he.run pins s σ H _ I q) (fun v s' z => ?_) fun _ _ z => z) hs⟩
  obtain ⟨y, H', J, r, q'⟩ := z
  exact store_ok J hN hi (.inl hx) r (fun s2 I2 => ⟨_, H', I2, q'⟩) (.inr hx)
theorem psa_expr (he : PEA X c e te) (hint : interactive X.env = false) (hs : swapsWith e none pos.line X.env = pure false := by rfl) : PSA X c (.Expr e pos) (tDrop te) := by
  refine ⟨fun pins s σ H D I q => ks_wpAt_Expr_any (PySem.wpAt_mono (he.run pins s σ H _ I q) (fun v s' z => ?_) fun _ _ z => z) hint hs⟩
  obtain ⟨y, H', J, r, q'⟩ := z
  exact ⟨σ, H', J, q'⟩
theorem psa_if {test : Expr} {b1 b2 : List Stmt} {tc : TT} {t1 t2 : TS} (hc : PT X test tc) (h1 : PSsA X c b1 t1) (h2 : PSsA X c b2 t2) : PSA X c (.If test b1 b2 pos) (tIfS tc t1 t2) := by
  refine ⟨fun pins s σ H D I q => ks_wpAt_If (wpAt_of_wpAny (wpAny_mono (hc.run pins s σ H _ I q) (fun b s' z => ?_) fun _ _ z => z))⟩
  obtain ⟨H', J, q'⟩ := z
  cases b with
  | true => exact h1.run pins s' σ H' D J q'
  | false => exact h2.run pins s' σ H' D J q'
end
/-! ### such a def -/
structure SupF (P : Program) (K : PySem.W.Frag) (f : Addr) (fd : FuncData) (name qual : Str) (params : Arguments) (body : List Stmt) (scope : Scope) (cda cc D : Addr) : Prop where
  fn : ∃ (oc dV kV doc pm ct : Value) (an od : Option Addr) (osl : Array (Option Value)), fd = PySem.W.ksFn name qual params body scope dV kV doc pm an (.ref cda) ct cc ∧ K.lookup f = some ⟨oc, od, .func fd, osl⟩
  code : PySem.W.codeIn K (.ref cda) qual = true
  cd : ∃ (ccl : Value) (cdd : Option Addr) (vs : Array Value) (ccs : Array (Option Value)) (file : Str) (tf : Tok), K.lookup cda = some ⟨ccl, cdd, .fields vs, ccs⟩ ∧ vs[2]? = some (.str file tf) ∧ ((P.main.file : Str) == file) = true
  cell : ∃ (cl : Value) (cld : Option Addr) (csl : Array (Option Value)), K.lookup cc = some ⟨cl, cld, .cell (some (.ref D)), csl⟩
  top : (P.main.scope.names.lookup ("super" : Str)).isSome = false
  opq : PySem.W.nsIn K cStatics "thirdparty.any" = some none
  dcl : ∃ cdD, PySem.W.clsIn K D = some cdD
section
variable {P : Program} {w : World} {K : PySem.W.Frag} {mg : Str → Option Value} {base : Heap} {f cda cc D : Addr} {fd : FuncData} {name qual : Str} {params : Arguments} {body : List Stmt} {scope : Scope} {N ps : List Str}
theorem SupF.ok {CX : CXT} {k : Nat} {sp : Sp} (F : SupF P K f fd name qual params body scope cda cc D) (S : SScope N ps scope) (len : ∀ vs H Q E, sp vs H Q E → vs.length = ps.length)
    (hbody : ∀ (A : Around) (outer : List Env) (s : Shared) (H : Hp) (vs : List V) (Q : VK) (E : XK), Room k (A.deeper (PySem.W.ksEnv qual scope s.heap.objs.size f (.ref cda) cc)) → sp vs H Q E →
      ∃ t, PSsA (KX.supCx CX P w K mg base N qual scope f cda cc A outer s H E) (.func body (PySem.W.ksEnv qual scope s.heap.objs.size f (.ref cda) cc)) body t ∧ t { nx := fun _ H' => Q .non H', rt := Q } (L2.start N vs) H) :
    FnOk P w K mg base CX (k + 1) f fd ps sp := by
  refine ⟨len, fun A outer st h args us vs Q E room env bind r pre => ?_⟩
  have hl := len _ _ _ _ pre
  obtain ⟨oc, dV, kV, doc, pm, ct, an, od, osl, rfl, lf⟩ := F.fn
  obtain ⟨cl, cld, csl, lcc⟩ := F.cell
  have kin : K.In st.heap := env.mod.kin.keeps fun b o e => (env.bs b o e).1
  have nolim : st.heap.NoLimit := env.mod.nolimit.keeps fun b o e => (env.bs b o e).1
  refine ks_codeAny_call_defAt (binds := ps.zip us) room.depth (kin _ _ lf) rfl nolim (PySem.W.codeRec_of kin F.code) rfl bind S.nocell (fun y hy => S.par y.1 (List.of_mem_zip (show (y.1, y.2) ∈ ps.zip us from hy)).1) (fun h1 hns kp => ?_) S.co S.gen S.kind
  obtain ⟨t, ht, hq⟩ := hbody A outer st h vs Q E (room.deeper _) pre
  have I : Inv (KX.supCx CX P w K mg base N qual scope f cda cc A outer st h E) [] (L2.start N vs) h { st with heap := h1, toks := st.toks + (ps.zip us).length } := inv_supN S env room.hd hl lcc hns kp r
  refine PySem.wpAt_mono (ht.run [] _ (L2.start N vs) h _ I hq) (fun fl s' hs => ?_) fun e s' hs => hs
  cases fl with
  | ret u => obtain ⟨v, _, h2, J, rel, z⟩ := hs; exact ⟨v, h2, J.os, J.bare, J.base, J.hok, rel, z⟩
  | next => obtain ⟨_, h2, J, z⟩ := hs; exact ⟨.non, h2, J.os, J.bare, J.base, J.hok, rfl, z⟩
  | brk => exact (let ⟨_, _, _, z⟩ := hs; z : False).elim
  | cont => exact (let ⟨_, _, _, z⟩ := hs; z : False).elim
/-- super().m(e, ..): self stands in the slot 0; C: the object's class -/
def tSup (C : Addr) (sp : Sp) (E : XK) (t : TA) : TE := fun σ H Q => ∃ (a dx : Addr) (fs : List (Str × V)), σ[0]? = some (some (.ref a)) ∧ H a = some (.ins C dx fs) ∧ t σ H fun vs H1 => sp (.ref a :: vs) H1 Q E
structure SupM (P : Program) (w : World) (K : PySem.W.Frag) (mg : Str → Option Value) (base : Heap) (CX : CXT) (k : Nat) (C D : Addr) (m : Str) (ps : List Str) (sp : Sp) : Prop where
  ex : ∃ (g : Addr) (gd : FuncData), PySem.W.ks_superIn K C D m = some (some (.ref g)) ∧ PySem.W.typeIn K (.ref g) = some (.type "function") ∧ PySem.W.fnIn K g = true ∧ FnOk P w K mg base CX k g gd ps sp ∧ Binds K gd ps []
  sub : PySem.W.mroIn K C (.ref D) = some true
theorem sup_core {CX1 : CXT} {C g : Addr} {m : Str} {E : XK} {A : Around} {outer : List Env} {st : Shared} {H0 : Hp} {p0 p1 p2 p4 : Pos} {es : List Expr} {pl : Sem Bool} {ar : Arg} {pins : List (Addr × Obj)} {s : Shared} {σ : L2.St} {H : Hp} {Z : Value → Shared → Prop} {a dx : Addr} {fs : List (Str × V)}
    (F : SupF P K f fd name qual params body scope cda cc D) (S : SScope N ps scope) (har : (params.posonlyargs ++ params.args).head? = some ar) (hself : N[0]? = some ar.arg) (hpar : ar.arg ∈ ps) (hm : mg "super" = none) (hin : PySem.W.ks_superIn K C D m = some (some (.ref g))) (hty : PySem.W.typeIn K (.ref g) = some (.type "function")) (sub : PySem.W.mroIn K C (.ref D) = some true) (hat : (m == ("__class__" : Str)) = false)
    (I : Inv (KX.supCx CX1 P w K mg base N qual scope f cda cc A outer st H0 E) pins σ H s) (h0 : σ[0]? = some (some (.ref a))) (hH : H a = some (.ins C dx fs))
    (hev : eval (.Call (.Attribute (.Call (.Name "super" p0) [] [] p1) m p2) es [] p4) (PySem.W.ksEnv qual scope st.heap.objs.size f (.ref cda) cc) = (do
      let ov ← attributeBase (.Call (.Name "super" p0) [] [] p1) m (PySem.W.ksEnv qual scope st.heap.objs.size f (.ref cda) cc) (eval (.Call (.Name "super" p0) [] [] p1) (PySem.W.ksEnv qual scope st.heap.objs.size f (.ref cda) cc))
      standAt p2.atName
      let (g, first) ← holding [ov] (getMethod ov m pl)
      callWith p4 g first (backTo p4 (starEach es (PySem.W.ksEnv qual scope st.heap.objs.size f (.ref cda) cc))) []) )
    (go : ∀ q s', base.get? q = none → Inv (KX.supCx CX1 P w K mg base N qual scope f cda cc A outer st H0 E) ((q, PySem.W.methodObj (.ref g) (.ref a)) :: pins) σ H s' → wpAny (model P w) (KX.supCx CX1 P w K mg base N qual scope f cda cc A outer st H0 E).A (callWith p4 (.ref q) [] (backTo p4 (starEach es (PySem.W.ksEnv qual scope st.heap.objs.size f (.ref cda) cc))) []) Z (KX.supCx CX1 P w K mg base N qual scope f cda cc A outer st H0 E).xe s') :
    _root_.PySem.wpAt (model P w) (KX.supCx CX1 P w K mg base N qual scope f cda cc A outer st H0 E).A (.func body (PySem.W.ksEnv qual scope st.heap.objs.size f (.ref cda) cc)) (eval (.Call (.Attribute (.Call (.Name "super" p0) [] [] p1) m p2) es [] p4) (PySem.W.ksEnv qual scope st.heap.objs.size f (.ref cda) cc)) Z (KX.supCx CX1 P w K mg base N qual scope f cda cc A outer st H0 E).xe s := by
  obtain ⟨oc, dV, kV, doc, pm, ct, an, od, osl, rfl, lf⟩ := F.fn
  obtain ⟨ccl, cdd, vs, ccs, file, tf, lcd, hvs, hfile⟩ := F.cd
  obtain ⟨cl, cld, csl, lcc⟩ := F.cell
  obtain ⟨cdD, hD⟩ := F.dcl
  refine ks_wpAt_MethodCall (pl := pl) (env := PySem.W.ksEnv qual scope st.heap.objs.size f (.ref cda) cc) ?_ hev
  have kin : K.In s.heap := I.kIn
  obtain ⟨ml, hns, hlk⟩ := I.loc
  have hloc : scope.names.lookup ar.arg = some .local := S.par ar.arg hpar
  obtain ⟨u0, ru0, hu0⟩ := hlk 0 ar.arg (.ref a) hself h0 (.inl hloc)
  obtain rfl : u0 = Value.ref a := ru0
  have hself2 : ml ar.arg = some (.ref a) := by
    rcases hu0 with ⟨_, e⟩ | ⟨z, _⟩
    · exact e
    · rcases z with z | z
      · have z2 : scope.names.lookup ar.arg = some .cell := z
        rw [hloc] at z2; cases z2
      · have z2 : scope.names.lookup ar.arg = some .free := z
        rw [hloc] at z2; cases z2
  obtain ⟨oinst, J⟩ := inst_of I hH
  obtain ⟨mb, b1, b2⟩ := I.ok.mod.blt
  have kb : ∀ b o, base.get? b = some o → s.heap.get? b = some o := fun b o e => (I.bs b o e).1
  obtain ⟨hh, g0, d0, t0, os0⟩ := s
  obtain ⟨oD, hD1, hD2⟩ : ∃ oD, hh.get? D = some oD ∧ oD.data = .cls cdD := by
    unfold PySem.W.clsIn at hD
    split at hD
    · rename_i c d cd' sl ho
      cases hD
      exact ⟨_, kin _ _ ho, rfl⟩
    · cases hD
  refine ks_wpAt_super_base (env := PySem.W.ksEnv qual scope st.heap.objs.size f (.ref cda) cc) S.sup S.cls hat rfl (kin _ _ lf) rfl har rfl (kin _ _ lcd) rfl hvs hfile F.top ?_
  refine PySem.W.ks_loadName_global S.kind S.sup (Calls.loadGlobal_builtin (env := PySem.W.ksEnv qual scope st.heap.objs.size f (.ref cda) cc) (I.ok.mod.glob.keeps kb) hm (b1.keeps kb) ((b2 "super" (by decide)).trans (by decide +kernel)) ⟨rfl, ?_⟩)
  refine wpAny_loadName_free S.kind S.cls rfl ⟨_, kin _ _ lcc, rfl⟩ ?_
  refine wpAny_loadName_local S.kind hloc hns (v := .ref a) hself2 ?_
  refine ks_wpAny_isType_cls hD1 hD2 ⟨rfl, ?_⟩
  refine ks_wpAny_call_super hD1 hD2 J.at_ J.cls (fun c e => ?_) (PySem.W.looks_mroIn kin sub) (fun h2 e2 kp2 => ?_)
  · have := J.no
    unfold PySem.W.notCls at this
    rw [e] at this
    exact Bool.noConfusion this
  have I2 : Inv (KX.supCx CX1 P w K mg base N qual scope f cda cc A outer st H0 E) pins σ H ⟨h2, g0, d0, t0, os0⟩ := I.kept (t' := t0) kp2
  have kin2 : K.In h2 := kin.keeps kp2
  cases hc : PySem.W.clsIn K C with
  | none => unfold PySem.W.ks_superIn at hin; rw [hc] at hin; cases hin
  | some cdC =>
  have hin2 := hin
  unfold PySem.W.ks_superIn at hin2
  rw [hc] at hin2
  obtain ⟨of, hof, hofc⟩ : ∃ of, h2.get? g = some of ∧ of.cls = .type "function" := by
    have ht' : (K.lookup g).map (·.cls) = some (.type "function") := hty
    cases z : K.lookup g with
    | none => rw [z] at ht'; cases ht'
    | some of => rw [z] at ht'; exact ⟨of, kin2 _ _ z, Option.some.inj ht'⟩
  obtain ⟨oinst2, J2⟩ := inst_of I2 hH
  refine ks_wpAny_getMethod_super e2 (PySem.W.looks_opaque kin2 F.opq) (l₀ := cdC.mro) (fun A Q E s k q => wpAny_bind ((PySem.W.looks_clsIn kin2 hc) A _ E s k (wpAny_pure q))) rfl kin2 hin2 hof hofc (PySem.W.ks_ne kin2 J2 hc) hat ?_
  have I3 : Inv (KX.supCx CX1 P w K mg base N qual scope f cda cc A outer st H0 E) ((h2.objs.size, PySem.W.methodObj (.ref g) (.ref a)) :: pins) σ H ⟨h2.push (PySem.W.methodObj (.ref g) (.ref a)), g0, d0, t0 + 1, os0⟩ := ClX.met_new I2
  exact go _ _ (ClX.base_none I2 (Nat.le_refl _)) I3
theorem sup_run {CX1 CX2 : CXT} {k : Nat} {g a q : Addr} {gd : FuncData} {ps2 : List Str} {sp : Sp} {E E2 : XK} {A : Around} {outer : List Env} {st : Shared} {H0 H1 : Hp} {us : List Value} {xs : List V} {Q : VK} {pins : List (Addr × Obj)} {s4 : Shared} {σ : L2.St}
    (room : Room k (KX.supCx CX1 P w K mg base N qual scope f cda cc A outer st H0 E).A) (pass : Passes CX2 (KX.supCx CX1 P w K mg base N qual scope f cda cc A outer st H0 E) E2) (G : FnOk P w K mg base CX2 k g gd ps2 sp) (bind : Binds K gd ps2 []) (I4 : Inv (KX.supCx CX1 P w K mg base N qual scope f cda cc A outer st H0 E) ((q, PySem.W.methodObj (.ref g) (.ref a)) :: pins) σ H1 s4) (rv : Vals xs us) (q1 : sp (.ref a :: xs) H1 Q E2) :
    wpAny (model P w) (KX.supCx CX1 P w K mg base N qual scope f cda cc A outer st H0 E).A (call (.ref q) us) (EP (KX.supCx CX1 P w K mg base N qual scope f cda cc A outer st H0 E) pins σ Q) (KX.supCx CX1 P w K mg base N qual scope f cda cc A outer st H0 E).xe s4 := by
  have z : wpAny (model P w) (KX.supCx CX1 P w K mg base N qual scope f cda cc A outer st H0 E).A (call (.ref q) us) (EP (KX.supCx CX1 P w K mg base N qual scope f cda cc A outer st H0 E) ((q, PySem.W.methodObj (.ref g) (.ref a)) :: pins) σ Q) (KX.supCx CX1 P w K mg base N qual scope f cda cc A outer st H0 E).xe s4 := by
    refine wpAny_call (PySem.W.method_call (ClX.pin_at I4) ?_)
    have rel : Vals (V.ref a :: xs) (Value.ref a :: us) := .cons rfl rv
    have size : ((Value.ref a :: us) ++ []).length = ps2.length := by rw [List.append_nil, ← rel.length]; exact G.len _ _ _ _ q1
    have bd := bind s4 (Value.ref a :: us) I4.kIn size
    rw [List.append_nil] at bd
    refine codeAny_mono (G.run _ (KX.supCx CX1 P w K mg base N qual scope f cda cc A outer st H0 E).stack s4 H1 ⟨Value.ref a :: us, []⟩ _ _ Q E2 room I4.env0 bd rel q1) fun res s5 y => ?_
    match res, y with
    | .error e, y => exact pass _ σ H1 s4 e s5 I4 y
    | .ok (.ret u), y => exact I4.after y
    | .ok .next, y => exact y.elim
    | .ok .brk, y => exact y.elim
    | .ok .cont, y => exact y.elim
  exact thn z fun _ _ y => ClX.unpinE y
theorem pea_super0 {CX1 CX2 : CXT} {k : Nat} {C : Addr} {m : Str} {ps2 : List Str} {sp : Sp} {E E2 : XK} {A : Around} {outer : List Env} {st : Shared} {H0 : Hp} {p0 p1 p2 p4 : Pos} {pl : Sem Bool} {ar : Arg}
    (F : SupF P K f fd name qual params body scope cda cc D) (S : SScope N ps scope) (har : (params.posonlyargs ++ params.args).head? = some ar) (hself : N[0]? = some ar.arg) (hpar : ar.arg ∈ ps) (hm : mg "super" = none) (c : SupM P w K mg base CX2 k C D m ps2 sp) (room : Room k (KX.supCx CX1 P w K mg base N qual scope f cda cc A outer st H0 E).A)
    (pass : Passes CX2 (KX.supCx CX1 P w K mg base N qual scope f cda cc A outer st H0 E) E2) (hat : (m == ("__class__" : Str)) = false := by decide)
    (hev : eval (.Call (.Attribute (.Call (.Name "super" p0) [] [] p1) m p2) [] [] p4) (PySem.W.ksEnv qual scope st.heap.objs.size f (.ref cda) cc) = (do
      let ov ← attributeBase (.Call (.Name "super" p0) [] [] p1) m (PySem.W.ksEnv qual scope st.heap.objs.size f (.ref cda) cc) (eval (.Call (.Name "super" p0) [] [] p1) (PySem.W.ksEnv qual scope st.heap.objs.size f (.ref cda) cc))
      standAt p2.atName
      let (g, first) ← holding [ov] (getMethod ov m pl)
      callWith p4 g first (backTo p4 (starEach [] (PySem.W.ksEnv qual scope st.heap.objs.size f (.ref cda) cc))) []) := by rfl) :
    PEA (KX.supCx CX1 P w K mg base N qual scope f cda cc A outer st H0 E) (.func body (PySem.W.ksEnv qual scope st.heap.objs.size f (.ref cda) cc)) (.Call (.Attribute (.Call (.Name "super" p0) [] [] p1) m p2) [] [] p4) (tSup C sp E2 tNil) := by
  obtain ⟨g, gd, hin, hty, hfi, G, bind⟩ := c.ex
  refine ⟨fun pins s σ H Q I h => ?_⟩
  obtain ⟨a, dx, fs, h0, hH, q⟩ := h
  refine sup_core F S har hself hpar hm hin hty c.sub hat I h0 hH hev fun r s' hb I3 => ?_
  refine PySem.W.callWith_M0 (K := K) (self := .ref a) ⟨ClX.pin_at I3, I3.kIn⟩ hfi ?_
  exact sup_run room pass G bind I3 .nil q
theorem pea_super {CX1 CX2 : CXT} {k : Nat} {C : Addr} {m : Str} {ps2 : List Str} {sp : Sp} {E E2 : XK} {A : Around} {outer : List Env} {st : Shared} {H0 : Hp} {p0 p1 p2 p4 : Pos} {pl : Sem Bool} {ar : Arg} {e : Expr} {es : List Expr} {t : TA}
    (F : SupF P K f fd name qual params body scope cda cc D) (S : SScope N ps scope) (har : (params.posonlyargs ++ params.args).head? = some ar) (hself : N[0]? = some ar.arg) (hpar : ar.arg ∈ ps) (hm : mg "super" = none) (c : SupM P w K mg base CX2 k C D m ps2 sp) (room : Room k (KX.supCx CX1 P w K mg base N qual scope f cda cc A outer st H0 E).A)
    (pass : Passes CX2 (KX.supCx CX1 P w K mg base N qual scope f cda cc A outer st H0 E) E2) (ha : PA (KX.supCx CX1 P w K mg base N qual scope f cda cc A outer st H0 E) (e :: es) t) (hat : (m == ("__class__" : Str)) = false := by decide) (hst : starEach (e :: es) (PySem.W.ksEnv qual scope st.heap.objs.size f (.ref cda) cc) = (false, eval e (PySem.W.ksEnv qual scope st.heap.objs.size f (.ref cda) cc)) :: starEach es (PySem.W.ksEnv qual scope st.heap.objs.size f (.ref cda) cc) := by rfl) (hpl : (backTo p4 (starEach es (PySem.W.ksEnv qual scope st.heap.objs.size f (.ref cda) cc))).any (·.1) = false := by rfl)
    (hev : eval (.Call (.Attribute (.Call (.Name "super" p0) [] [] p1) m p2) (e :: es) [] p4) (PySem.W.ksEnv qual scope st.heap.objs.size f (.ref cda) cc) = (do
      let ov ← attributeBase (.Call (.Name "super" p0) [] [] p1) m (PySem.W.ksEnv qual scope st.heap.objs.size f (.ref cda) cc) (eval (.Call (.Name "super" p0) [] [] p1) (PySem.W.ksEnv qual scope st.heap.objs.size f (.ref cda) cc))
      standAt p2.atName
      let (g, first) ← holding [ov] (getMethod ov m pl)
      callWith p4 g first (backTo p4 (starEach (e :: es) (PySem.W.ksEnv qual scope st.heap.objs.size f (.ref cda) cc))) []) := by rfl) :
    PEA (KX.supCx CX1 P w K mg base N qual scope f cda cc A outer st H0 E) (.func body (PySem.W.ksEnv qual scope st.heap.objs.size f (.ref cda) cc)) (.Call (.Attribute (.Call (.Name "super" p0) [] [] p1) m p2) (e :: es) [] p4) (tSup C sp E2 t) := by
  obtain ⟨g, gd, hin, hty, hfi, G, bind⟩ := c.ex
  refine ⟨fun pins s σ H Q I h => ?_⟩
  obtain ⟨a, dx, fs, h0, hH, q⟩ := h
  refine sup_core F S har hself hpar hm hin hty c.sub hat I h0 hH hev fun r s' hb I3 => ?_
  refine ClX.callwith_cm (C := a) I3 hb hfi (thn (ha.run p4 _ s' σ H _ I3 q) fun us s4 res => ?_) hst hpl
  obtain ⟨xs, H1, I4, rv, q1⟩ := res
  exact ⟨⟨ClX.pin_at I4, I4.kIn⟩, sup_run room pass G bind I4 rv q1⟩
end
theorem r_sup {C : Addr} {sp : Sp} {E : XK} {t : TA} {σ : L2.St} {H : Hp} {Q : VK} {a dx : Addr} {fs : List (Str × V)} (h0 : σ[0]? = some (some (.ref a))) (hH : H a = some (.ins C dx fs)) (q : t σ H fun vs H1 => sp (.ref a :: vs) H1 Q E) : tSup C sp E t σ H Q := ⟨a, dx, fs, h0, hH, q⟩
end KN

/-! ### own steps of the reading -/
local macro_rules | `(tactic| walk_at "hp") => `(tactic| first | with_reducible assumption | with_reducible exact L2.upd_same | (refine KB.upd_new ?h1 ?h2; (case h1 => (with_reducible assumption)); (case h2 => walk_at "hp")) | (rw [L2.upd_ne (by first | assumption | exact Ne.symm (by assumption))]; walk_at "hp"))
local macro_rules | `(tactic| walk_at "sq") => `(tactic| first | with_reducible assumption | (refine L2.SqL.of ?h1; (case h1 => walk_at "hp")) | (refine L2.SqT.of ?h1; (case h1 => walk_at "hp")))
local macro_rules | `(tactic| walk_at "sq2") => `(tactic| first | (refine Or.inl ?_; walk_at "sq") | (refine Or.inr ?_; walk_at "sq") | (with_reducible exact Or.inr (by (first | with_reducible assumption | apply_assumption))))
local macro_rules | `(tactic| walk_at "sz") => `(tactic| exact KB.sz_lit (by simp))
local macro_rules | `(tactic| walk_at "cond") => `(tactic| first | (show _ ∨ _; first | exact Or.inl ⟨by omega, by omega⟩ | exact Or.inr ⟨by omega, by omega⟩) | (show _ ∧ _ ∧ _; exact ⟨by omega, by omega, by omega⟩) | (show _ ∧ _; exact ⟨by omega, by omega⟩) | (show _ < _; omega) | (show _ ≤ _; omega))
local macro_rules | `(tactic| walk_at "rd1") => `(tactic| first
  | with_reducible refine KB.r_seq ?_
  | with_reducible refine KB.r_next ?_
  | with_reducible refine KB.r_c ?_
  | ((with_reducible refine KB.r_var (v := ?v1) ?h1 ?q); (case h1 => exact rfl))
  | with_reducible refine KB.r_op ?_
  | with_reducible refine KB.r_un ?_
  | with_reducible refine KB.r_I0 ?_
  | ((with_reducible refine KB.r_I ?h1 ?q); (case h1 => walk_at "cond"))
  | with_reducible refine KB.r_int1 ?_
  | with_reducible refine KB.r_bl1 ?_
  | with_reducible refine KB.r_ex1 ?_
  | with_reducible refine KB.r_ex2 ?_
  | ((with_reducible refine KB.r_lenS (xs := ?v1) ?h1 ?q); (case h1 => walk_at "sq"))
  | ((with_reducible refine KB.r_eq ?h1 ?q); (case h1 => exact rfl))
  | ((with_reducible refine KB.r_ne ?h1 ?q); (case h1 => exact rfl))
  | with_reducible refine KB.r_U ?_
  | with_reducible refine KB.r_test ?_
  | with_reducible refine KB.r_B ?_
  | with_reducible refine KB.r_bl ?_
  | with_reducible refine KB.r_int ?_
  | with_reducible refine KB.r_and ?_
  | with_reducible refine KB.r_or ?_
  | with_reducible refine KB.r_not ?_
  | with_reducible refine KB.r_andV ?_
  | with_reducible refine KB.r_orV ?_
  | with_reducible refine KB.r_notV ?_
  | with_reducible refine KB.r_if ?_
  | with_reducible refine KB.r_nil ?_
  | with_reducible refine KB.r_cons ?_
  | with_reducible refine KB.r_tup ?_
  | with_reducible refine KB.r_lst ?_
  | with_reducible refine KB.r_call ?_
  | with_reducible refine KB.r_cb ?_
  | ((with_reducible refine KB.r_ixL (xs := ?v1) (v := ?v2) ?h1 ?h2 ?q); (case h1 => walk_at "sq"); (case h2 => exact rfl))
  | ((with_reducible refine KB.r_ixT (xs := ?v1) (v := ?v2) ?h1 ?h2 ?q); (case h1 => walk_at "sq"); (case h2 => exact rfl))
  | ((with_reducible refine KB.r_setL (xs := ?v1) (j := ?v2) ?h1 ?h2 ?q); (case h1 => walk_at "hp"); (case h2 => exact rfl))
  | with_reducible refine KB.r_meth ?_
  | with_reducible refine KB.r_fld ?_
  | with_reducible refine KB.r_sfld ?_
  | with_reducible refine KB.r_gname ?_
  | with_reducible refine KB.r_for ?_
  | with_reducible refine KO.r_methK0 ?_
  | with_reducible refine KO.r_makeK ?_
  | with_reducible refine KO.r_joined ?_
  | with_reducible refine KO.r_joined0 ?_
  | with_reducible refine KO.r_fmt ?_
  | with_reducible refine KB.r_isNone ?_
  | ((with_reducible refine KB.r_gtup (xs := ?v1) ?h1 ?h2 ?q); (case h1 => walk_at "sq"); (case h2 => exact rfl))
  | with_reducible refine KB.r_gcons ?_
  | with_reducible refine KB.r_gnil ?_
  | with_reducible refine KB.r_irng2 ?_
  | with_reducible refine KB.r_bm ?_
  | ((with_reducible refine KB.r_tyL (xs := ?v1) ?h1 ?q); (case h1 => walk_at "sq"))
  | ((with_reducible refine KB.r_fldK (C := ?v1) (dx := ?v2) (fs := ?v3) (v := ?v4) ?h1 ?h2 ?h3 ?h4 ?q); (case h1 => walk_at "hp"); (case h2 => assumption); (case h3 => assumption); (case h4 => exact rfl))
  | with_reducible refine KB.r_callD ?_
  | with_reducible refine KB.r_callN ?_
  | with_reducible refine KB.r_dget1 ?_
  | with_reducible refine KB.r_dget ?_
  | with_reducible refine KB.r_dput ?_
  | with_reducible refine KB.r_disp ?_
  | with_reducible refine KB.r_pairs ?_
  | with_reducible refine KB.r_pairs0 ?_
  | with_reducible refine KB.r_make ?_
  | with_reducible refine KB.r_m1 ?_
  | with_reducible refine KB.r_m0 ?_
  | with_reducible refine KB.r_isStr ?_
  | with_reducible refine KB.r_exStr ?_
  | with_reducible refine KB.r_lc ?_
  | with_reducible refine KB.r_irng1 ?_
  | with_reducible refine KB.r_itup ?_
  | with_reducible refine KB.r_ilist ?_
  | with_reducible refine KB.r_istr ?_
  | ((with_reducible refine KB.r_cval (v := ?v1) (mc := ?v2) (uu := ?v3) ?h1 ?h2 ?q); (case h1 => assumption); (case h2 => assumption))
  | ((with_reducible refine KB.r_notInS (zs := ?v1) ?h1 ?q); (case h1 => walk_at "sq2"))
  | ((with_reducible refine KB.r_inS (zs := ?v1) ?h1 ?q); (case h1 => walk_at "sq2"))
  | with_reducible refine KB.r_asg ?_
  | with_reducible refine KB.r_asgS ?_
  | with_reducible refine KB.r_asgG ?_
  | with_reducible refine KB.r_ifS ?_
  | with_reducible refine KB.r_ret ?_
  | with_reducible refine KB.r_drop ?_
  | with_reducible refine KB.r_par ?_
  | with_reducible refine KB.r_match ?_
  | with_reducible refine KB.r_mstr ?_
  | with_reducible refine KB.r_mnil ?_
  | with_reducible refine KB.r_sl ?_
  | with_reducible refine KB.r_nopart ?_
  | with_reducible refine KB.r_part ?_
  | ((with_reducible refine KB.r_slL (xs := ?v1) ?h1 ?q); (case h1 => walk_at "sq"))
  | with_reducible refine L2.iteF ?_
  | with_reducible refine KB.iteNt ?_
  | with_reducible refine KB.iteNf ?_
  | with_reducible refine L2.iteT ?_
  | dsimp only)
local macro_rules | `(tactic| walk_at "rd") => `(tactic| repeat walk_at "rd1")
local macro_rules | `(tactic| walk_at "sp1") => `(tactic| first | with_reducible refine KB.r_iteS2 (fun _ => ?_) (fun _ => ?_) | with_reducible refine KB.r_iteI2 (fun _ => ?_) (fun _ => ?_) | with_reducible refine KB.r_ite2 (fun _ => ?_) (fun _ => ?_) | with_reducible refine KB.r_iteN2 (fun _ => ?_) (fun _ => ?_) | with_reducible refine KB.r_iteB (fun _ => ?_) (fun _ => ?_) | with_reducible refine KB.r_iteBN (fun _ => ?_) (fun _ => ?_))
local macro_rules | `(tactic| walk_at "sp") => `(tactic| repeat' (first | walk_at "rd1" | walk_at "sp1"))
local macro_rules | `(tactic| walk_at "ifs") => `(tactic| repeat (first | rw [if_pos (by assumption)] | rw [if_neg (by assumption)]))

namespace K10
open PySem L2 KB
def top (i : Nat) : Stmt := PySem.Challenge.pw_keptbits_k10_bits_of_kinds_beside_the_fa.main.body.getD i (.Pass ⟨0, 0, 0, 0⟩)
abbrev s_is_integer : Stmt := top 9
theorem sc_is_integer : FnScope ["value"] ["value"] (defScope s_is_integer) := ⟨rfl, rfl, rfl, by decide +kernel, rfl, by decide +kernel, by decide +kernel⟩
abbrev s_need_bit : Stmt := top 11
theorem sc_need_bit : FnScope ["value"] ["value"] (defScope s_need_bit) := ⟨rfl, rfl, rfl, by decide +kernel, rfl, by decide +kernel, by decide +kernel⟩
abbrev s_Bit___init__ : Stmt := inClass (top 12) 1
theorem sc_Bit___init__ : FnScope ["self", "value"] ["self", "value"] (defScope s_Bit___init__) := ⟨rfl, rfl, rfl, by decide +kernel, rfl, by decide +kernel, by decide +kernel⟩
abbrev s_Bit_now : Stmt := inClass (top 12) 2
theorem sc_Bit_now : FnScope ["self"] ["self"] (defScope s_Bit_now) := ⟨rfl, rfl, rfl, by decide +kernel, rfl, by decide +kernel, by decide +kernel⟩
abbrev s_Bit_state : Stmt := inClass (top 12) 3
theorem sc_Bit_state : FnScope ["self"] ["self"] (defScope s_Bit_state) := ⟨rfl, rfl, rfl, by decide +kernel, rfl, by decide +kernel, by decide +kernel⟩
abbrev s_Bit_read : Stmt := inClass (top 12) 4
theorem sc_Bit_read : FnScope ["self"] ["self"] (defScope s_Bit_read) := ⟨rfl, rfl, rfl, by decide +kernel, rfl, by decide +kernel, by decide +kernel⟩
abbrev s_Bit_write : Stmt := inClass (top 12) 5
theorem sc_Bit_write : FnScope ["self", "bit"] ["self", "bit"] (defScope s_Bit_write) := ⟨rfl, rfl, rfl, by decide +kernel, rfl, by decide +kernel, by decide +kernel⟩
abbrev s_Bit_deed : Stmt := inClass (top 12) 6
theorem sc_Bit_deed : FnScope ["self"] ["self"] (defScope s_Bit_deed) := ⟨rfl, rfl, rfl, by decide +kernel, rfl, by decide +kernel, by decide +kernel⟩
abbrev s_TakenBit_read : Stmt := inClass (top 13) 1
theorem sc_TakenBit_read : KN.SScope ["self", "found"] ["self"] (defScope s_TakenBit_read) := ⟨rfl, rfl, rfl, by decide +kernel, rfl, by decide +kernel, by decide +kernel, by decide +kernel, rfl, rfl⟩
abbrev s_ClearedBit_write : Stmt := inClass (top 14) 1
theorem sc_ClearedBit_write : FnScope ["self", "bit"] ["self", "bit"] (defScope s_ClearedBit_write) := ⟨rfl, rfl, rfl, by decide +kernel, rfl, by decide +kernel, by decide +kernel⟩
abbrev s_ZeroClearedBit_write : Stmt := inClass (top 15) 1
theorem sc_ZeroClearedBit_write : FnScope ["self", "bit"] ["self", "bit"] (defScope s_ZeroClearedBit_write) := ⟨rfl, rfl, rfl, by decide +kernel, rfl, by decide +kernel, by decide +kernel⟩
abbrev s_SetBit_write : Stmt := inClass (top 16) 1
theorem sc_SetBit_write : FnScope ["self", "bit"] ["self", "bit"] (defScope s_SetBit_write) := ⟨rfl, rfl, rfl, by decide +kernel, rfl, by decide +kernel, by decide +kernel⟩
abbrev s_FlippedBit_write : Stmt := inClass (top 17) 1
theorem sc_FlippedBit_write : FnScope ["self", "bit"] ["self", "bit"] (defScope s_FlippedBit_write) := ⟨rfl, rfl, rfl, by decide +kernel, rfl, by decide +kernel, by decide +kernel⟩
abbrev s_OnceBit_write : Stmt := inClass (top 18) 1
theorem sc_OnceBit_write : FnScope ["self", "bit"] ["self", "bit"] (defScope s_OnceBit_write) := ⟨rfl, rfl, rfl, by decide +kernel, rfl, by decide +kernel, by decide +kernel⟩
abbrev s_DeafBit_write : Stmt := inClass (top 19) 1
theorem sc_DeafBit_write : FnScope ["self", "bit"] ["self", "bit"] (defScope s_DeafBit_write) := ⟨rfl, rfl, rfl, by decide +kernel, rfl, by decide +kernel, by decide +kernel⟩
abbrev s_RaisedBit_deed : Stmt := inClass (top 20) 1
theorem sc_RaisedBit_deed : KN.SScope ["self"] ["self"] (defScope s_RaisedBit_deed) := ⟨rfl, rfl, rfl, by decide +kernel, rfl, by decide +kernel, by decide +kernel, by decide +kernel, rfl, rfl⟩
abbrev s_EndedBit_deed : Stmt := inClass (top 21) 1
theorem sc_EndedBit_deed : KN.SScope ["self"] ["self"] (defScope s_EndedBit_deed) := ⟨rfl, rfl, rfl, by decide +kernel, rfl, by decide +kernel, by decide +kernel, by decide +kernel, rfl, rfl⟩
abbrev s_KindBit___init__ : Stmt := inClass (top 28) 0
theorem sc_KindBit___init__ : KN.SScope ["self", "kind", "value"] ["self", "kind", "value"] (defScope s_KindBit___init__) := ⟨rfl, rfl, rfl, by decide +kernel, rfl, by decide +kernel, by decide +kernel, by decide +kernel, rfl, rfl⟩
abbrev s_KindBit_read : Stmt := inClass (top 28) 1
theorem sc_KindBit_read : FnScope ["self", "found"] ["self"] (defScope s_KindBit_read) := ⟨rfl, rfl, rfl, by decide +kernel, rfl, by decide +kernel, by decide +kernel⟩
abbrev s_KindBit_write : Stmt := inClass (top 28) 2
theorem sc_KindBit_write : FnScope ["self", "bit"] ["self", "bit"] (defScope s_KindBit_write) := ⟨rfl, rfl, rfl, by decide +kernel, rfl, by decide +kernel, by decide +kernel⟩
abbrev s_KindBit_deed : Stmt := inClass (top 28) 3
theorem sc_KindBit_deed : FnScope ["self", "ends"] ["self"] (defScope s_KindBit_deed) := ⟨rfl, rfl, rfl, by decide +kernel, rfl, by decide +kernel, by decide +kernel⟩
abbrev s_Kind___init__ : Stmt := inClass (top 31) 3
theorem sc_Kind___init__ : FnScope ["self", "reading", "writing", "device", "word", "words"] ["self", "reading", "writing", "device"] (defScope s_Kind___init__) := ⟨rfl, rfl, rfl, by decide +kernel, rfl, by decide +kernel, by decide +kernel⟩
abbrev s_Kind___eq__ : Stmt := inClass (top 31) 4
theorem sc_Kind___eq__ : FnScope ["self", "other"] ["self", "other"] (defScope s_Kind___eq__) := ⟨rfl, rfl, rfl, by decide +kernel, rfl, by decide +kernel, by decide +kernel⟩
abbrev s_Kind___str__ : Stmt := inClass (top 31) 5
theorem sc_Kind___str__ : FnScope ["self"] ["self"] (defScope s_Kind___str__) := ⟨rfl, rfl, rfl, by decide +kernel, rfl, by decide +kernel, by decide +kernel⟩
abbrev s_Kind_after_read : Stmt := inClass (top 31) 6
theorem sc_Kind_after_read : FnScope ["self", "state"] ["self", "state"] (defScope s_Kind_after_read) := ⟨rfl, rfl, rfl, by decide +kernel, rfl, by decide +kernel, by decide +kernel⟩
abbrev s_Kind_after_write : Stmt := inClass (top 31) 7
theorem sc_Kind_after_write : FnScope ["self", "state", "bit"] ["self", "state", "bit"] (defScope s_Kind_after_write) := ⟨rfl, rfl, rfl, by decide +kernel, rfl, by decide +kernel, by decide +kernel⟩
abbrev s_Kind_unguarded : Stmt := inClass (top 31) 8
theorem sc_Kind_unguarded : FnScope ["self", "state", "bit", "second", "value"] ["self", "state", "bit"] (defScope s_Kind_unguarded) := ⟨rfl, rfl, rfl, by decide +kernel, rfl, by decide +kernel, by decide +kernel⟩
abbrev s_Kind_deeds : Stmt := inClass (top 31) 9
theorem sc_Kind_deeds : FnScope ["self", "state", "value"] ["self", "state"] (defScope s_Kind_deeds) := ⟨rfl, rfl, rfl, by decide +kernel, rfl, by decide +kernel, by decide +kernel⟩
abbrev s__law_pen : Stmt := top 33
theorem sc__law_pen : FnScope ["_law_script"] ["_law_script"] (defScope s__law_pen) := ⟨rfl, rfl, rfl, by decide +kernel, rfl, by decide +kernel, by decide +kernel⟩
abbrev s__law_draw : Stmt := top 34
theorem sc__law_draw : FnScope ["_law_pen_here", "_law_many", "_law_digit", "_law_at", "_law_cell", "_law_great", "_law_mixed"] ["_law_pen_here", "_law_many"] (defScope s__law_draw) := ⟨rfl, rfl, rfl, by decide +kernel, rfl, by decide +kernel, by decide +kernel⟩
abbrev s__law_heard : Stmt := top 35
theorem sc__law_heard : FnScope ["_law_ask", "_law_caught", "error", "_law_marks"] ["_law_ask"] (defScope s__law_heard) := ⟨rfl, rfl, rfl, by decide +kernel, rfl, by decide +kernel, by decide +kernel⟩
abbrev s__law_plain_bit : Stmt := top 36
theorem sc__law_plain_bit : FnScope ["_law_number", "_law_begin"] ["_law_number", "_law_begin"] (defScope s__law_plain_bit) := ⟨rfl, rfl, rfl, by decide +kernel, rfl, by decide +kernel, by decide +kernel⟩
abbrev s__law_bit : Stmt := top 37
theorem sc__law_bit : FnScope ["_law_number", "_law_begin"] ["_law_number", "_law_begin"] (defScope s__law_bit) := ⟨rfl, rfl, rfl, by decide +kernel, rfl, by decide +kernel, by decide +kernel⟩
abbrev s__law_words_of : Stmt := top 38
theorem sc__law_words_of : FnScope ["_law_number", "_law_some"] ["_law_number"] (defScope s__law_words_of) := ⟨rfl, rfl, rfl, by decide +kernel, rfl, by decide +kernel, by decide +kernel⟩
abbrev s__law_odd : Stmt := top 39
theorem sc__law_odd : FnScope ["_law_pen_here", "_law_some"] ["_law_pen_here"] (defScope s__law_odd) := ⟨rfl, rfl, rfl, by decide +kernel, rfl, by decide +kernel, by decide +kernel⟩
abbrev s__law_act : Stmt := top 40
theorem sc__law_act : FnScope ["_law_one", "_law_pick", "_law_thing", "_law_heard_here"] ["_law_one", "_law_pick", "_law_thing"] (defScope s__law_act) := ⟨rfl, rfl, rfl, by decide +kernel, rfl, by decide +kernel, by decide +kernel⟩
abbrev s__law_class_right : Stmt := top 41
theorem sc__law_class_right : FnScope ["_law_pen_here", "_law_number", "_law_begin", "_law_words", "_law_sort_so", "_law_bits", "_law_turn", "_law_pick", "_law_thing", "_law_ahead", "_law_told", "_law_one", "_law_heard_here"] ["_law_pen_here", "_law_number"] (defScope s__law_class_right) := ⟨rfl, rfl, rfl, by decide +kernel, rfl, by decide +kernel, by decide +kernel⟩
abbrev s_law : Stmt := top 42
theorem sc_law : FnScope ["_law_script", "_law_pen_here", "_law_turn"] ["_law_script"] (defScope s_law) := ⟨rfl, rfl, rfl, by decide +kernel, rfl, by decide +kernel, by decide +kernel⟩

structure Txt (mg : Str → Option Value) : Prop where
  z_int : mg "int" = none
  z_bool : mg "bool" = none
  z_abs : mg "abs" = none
  z_len : mg "len" = none
  z_list : mg "list" = none
  z_tuple : mg "tuple" = none
  z_max : mg "max" = none
  z_range : mg "range" = none
  z_isinstance : mg "isinstance" = none
  z_repr : mg "repr" = none
  z_sorted : mg "sorted" = none
  z_set : mg "set" = none
  z_zip : mg "zip" = none
  z_ValueError : mg "ValueError" = none
open KV


section
variable {P : Program} {w : World} {K : PySem.W.Frag} {mg : Str → Option Value} {base : Heap}
theorem ok_pen {f : Addr} {fd : FuncData} {k : Nat} (F : Fun K "_law_pen" "_law_pen" s__law_pen f fd) (T : Txt mg) : FnOk P w K mg base CX0 (k + 1) f fd ["_law_script"] (spPen K) := by
  refine F.ok sc__law_pen (fun vs H Q E h => ?_) (fun cdv A outer s H vs Q E hr h => ?_)
  · obtain ⟨a, ns, rfl, _⟩ := h
    rfl
  · obtain ⟨a, ns, rfl, hS, hl, q⟩ := h
    refine ⟨_, (pss_one (ps_ret (pe_lst (pa_cons (pe_callTy call_list_of (by rfl) T.z_list (by decide +kernel) (pa_cons (pe_slice sl_list (pv 0) po_none (po_some pe_int)) pa_nil)) (pa_cons pe_int (pa_cons pe_int pa_nil)))))), at_start (σ := [some (.ref a)]) rfl ?_⟩
    dsimp only [cx_K]
    walk_at "rd"
    intro c nc
    have ec : cutV (ns.map V.int) none (some 63) = (ns.take 63).map V.int := by
      rw [show (63 : Int) = ((63 : Nat) : Int) from rfl, cutV_take, List.map_take]
    rw [ec]
    walk_at "rd"
    intro l nl
    walk_at "rd"
    refine ⟨by walk_at "sz", fun p np => ?_⟩
    have npl : p ≠ l := fun z => by rw [z, upd_same] at np; cases np
    have s0 := ((same_new (o := .lst ((ns.take 63).map V.int)) nc).trans (same_new (o := .lst ((ns.take 63).map V.int)) nl)).trans (same_new (o := .lst [.ref l, .int 0, .int 0]) np)
    refine q _ p l s0 (((same_new nc).trans (same_new nl)).free np) ((same_new nc).free nl) ⟨ns.take 63, 0, 0, upd_same, upd_new np upd_same, npl, ?_, by omega⟩
    rw [List.length_take]
    omega
theorem ok_draw {f : Addr} {fd : FuncData} {k : Nat} (F : Fun K "_law_draw" "_law_draw" s__law_draw f fd) (T : Txt mg) : FnOk P w K mg base CX0 (k + 1) f fd ["_law_pen_here", "_law_many"] spDraw := by
  refine F.ok sc__law_draw (fun vs H Q E h => ?_) (fun cdv A outer s H vs Q E hr h => ?_)
  · obtain ⟨p, c, many, k, rfl, _⟩ := h
    rfl
  · obtain ⟨p, c, many, k, rfl, hm0, hm1, ⟨ns, at_, left, hp, hc, npc, hn, hat⟩, q⟩ := h
    refine ⟨_, (pss_cons (ps_if (pt_cmpR op_gt (pe_ix ix_list (pv 0) pe_int (fun _ _ => rfl)) pe_int (nomark _)) (pss_cons (ps_set (i := 2) sc__law_draw.nd rfl (by first | exact Or.inl rfl | exact Or.inr rfl) (pe_op op_mod (pe_callTy call_int1 (by rfl) T.z_int (by decide +kernel) (pa_cons (pe_ix ix_list (pv 0) pe_int (fun _ _ => rfl)) pa_nil)) (pv 1)))
 (pss_cons (ps_asg (pe_op op_fdiv (pe_callTy call_int1 (by rfl) T.z_int (by decide +kernel) (pa_cons (pe_ix ix_list (pv 0) pe_int (fun _ _ => rfl)) pa_nil)) (pv 1)) (pg_sub (pv 0) pe_int set_list))
 (pss_one (ps_ret (pv 2)))))
 pss_nil)
 (pss_cons (ps_set (i := 3) sc__law_draw.nd rfl (by first | exact Or.inl rfl | exact Or.inr rfl) (pe_ix ix_list (pv 0) pe_int (fun _ _ => rfl)))
 (pss_cons (ps_asg (pe_op op_add (pv 3) pe_int) (pg_sub (pv 0) pe_int set_list))
 (pss_cons (ps_set (i := 4) sc__law_draw.nd rfl (by first | exact Or.inl rfl | exact Or.inr rfl) (pe_op op_add (pe_op op_mul pe_int (pv 3)) pe_int))
 (Evl.pss_cut (ps_if (pt_cmpR (op_neD hr.units) (pe_ix ix_list (pv 0) pe_int (fun _ _ => rfl)) (pe_lst pa_nil) (nomark _)) (pss_one (ps_set (i := 4) sc__law_draw.nd rfl (by first | exact Or.inl rfl | exact Or.inr rfl) (pe_ix ix_list (pe_ix ix_list (pv 0) pe_int (fun _ _ => rfl)) (pe_op op_mod (pe_callTy call_int1 (by rfl) T.z_int (by decide +kernel) (pa_cons (pv 3) pa_nil)) (pe_callB call_len_seq (by rfl) T.z_len (by decide +kernel) (pa_cons (pe_ix ix_list (pv 0) pe_int (fun _ _ => rfl)) pa_nil))) (fun _ _ => rfl))))
 pss_nil)
 (pss_cons (ps_if (PW.pt (pw_and (pt_cmpR op_lt (pv 3) (pe_callB call_len_seq (by rfl) T.z_len (by decide +kernel) (pa_cons (pe_ix ix_list (pv 0) pe_int (fun _ _ => rfl)) pa_nil)) (nomark _)) (pw_and1 (pt_cmpR op_ge (pe_callB call_abs (by rfl) T.z_abs (by decide +kernel) (pa_cons (pv 4) pa_nil)) (pe_op op_pow pe_int pe_int) (nomark _))))) (pss_cons (ps_set (i := 5) sc__law_draw.nd rfl (by first | exact Or.inl rfl | exact Or.inr rfl) (pe_op op_add (pe_op op_mul pe_int (pe_callB call_abs (by rfl) T.z_abs (by decide +kernel) (pa_cons (pv 4) pa_nil))) (pe_callTy call_int1 (by rfl) T.z_int (by decide +kernel) (pa_cons (pe_cmpR op_lt (pv 4) pe_int (nomark _)) pa_nil))))
 (pss_cons (ps_asg (pe_op op_fdiv (pv 5) (pv 1)) (pg_sub (pv 0) pe_int set_list))
 (pss_one (ps_ret (pe_op op_mod (pe_callTy call_int1 (by rfl) T.z_int (by decide +kernel) (pa_cons (pv 5) pa_nil)) (pv 1))))))
 pss_nil)
 (pss_cons (ps_set (i := 6) sc__law_draw.nd rfl (by first | exact Or.inl rfl | exact Or.inr rfl) (pe_op op_mod (pe_op op_pow (pe_callTy call_int1 (by rfl) T.z_int (by decide +kernel) (pa_cons (pe_op op_add (pe_op op_add (pe_op op_mod (pe_callTy call_int1 (by rfl) T.z_int (by decide +kernel) (pa_cons (pv 4) pa_nil)) pe_int) (pe_op op_mul pe_int (pv 3))) pe_int) pa_nil)) pe_int) pe_int))
 (pss_cons (ps_set (i := 6) sc__law_draw.nd rfl (by first | exact Or.inl rfl | exact Or.inr rfl) (pe_op op_mod (pe_op op_pow (pe_callTy call_int1 (by rfl) T.z_int (by decide +kernel) (pa_cons (pe_op op_add (pe_op op_add (pe_op op_mul (pv 6) (pe_op op_add (pv 3) pe_int)) (pe_op op_mul (pe_op op_mul pe_int (pv 3)) (pv 3))) pe_int) pa_nil)) pe_int) pe_int))
 (pss_one (ps_ret (pe_op op_mod (pe_callTy call_int1 (by rfl) T.z_int (by decide +kernel) (pa_cons (pe_op op_fdiv (pv 6) pe_int) pa_nil)) (pv 1)))))))))))), at_start (σ := [some (.ref p), some (.int many), none, none, none, none, none]) rfl ?_⟩
    dsimp only [cx_K]
    walk_at "rd"
    have upp : ∀ o, upd H p o c = some (.lst (ns.map V.int)) := fun o => by rw [upd_ne npc.symm]; exact hc
    refine r_ite2 (fun h1 => ?_) (fun h1 => ?_)
    · walk_at "rd"
      exact q (left % many) _ (Int.emod_nonneg _ (by omega)) (Int.emod_lt_of_pos _ hm0) ⟨ns, at_, left / many, upd_same, upp _, npc, hn, by omega⟩ fun b o e hb => by rw [upd_ne hb]; exact e
    · walk_at "rd"
      refine ⟨fun σ' H' => ∃ cell : Int, σ' = [some (.ref p), some (.int many), none, some (.int at_), some (.int cell), none, none] ∧ H' p = some (.lst [.ref c, .int (at_ + 1), .int left]) ∧ H' c = some (.lst (ns.map V.int)) ∧ Keep p H H', ?_, ?_⟩
      · walk_at "rd"
        refine ⟨by decide, fun e he => ?_⟩
        have npe : p ≠ e := fun z => by rw [z, upd_same] at he; cases he
        refine r_neInts (ns := ns) (ms := []) (by walk_at "sq") (SqL.of upd_same) ?_
        walk_at "rd"
        have k1 : Keep p H (upd (upd H p (.lst [.ref c, .int (at_ + 1), .int left])) e (.lst [])) := fun b o x hb => upd_new he (by rw [upd_ne hb]; exact x)
        refine r_iteN2 (fun h2 => ?_) (fun h2 => ?_)
        · walk_at "rd"
          have hl : 0 < ns.length := List.length_pos_iff.mpr h2
          rw [List.length_map]
          have hj : (at_ : Int) % (ns.length : Int) = ((at_ % ns.length : Nat) : Int) := by omega
          have hj2 : at_ % ns.length < ns.length := Nat.mod_lt _ hl
          refine r_I (by show (0 : Int) < _; omega) ?_
          refine r_ixL (xs := ns.map V.int) (v := .int (ns[at_ % ns.length])) (by walk_at "sq") (by rw [hj]; exact atI_nat (by simp [hj2])) ?_
          exact ⟨_, rfl, upd_new he upd_same, upd_new he (upp _), k1⟩
        · exact ⟨_, rfl, upd_new he upd_same, upd_new he (upp _), k1⟩
      · rintro σ' H' ⟨cell, rfl, hp1, hc1, k1⟩
        have h6 : ∀ (r : Int) (l2 : Int), 0 ≤ r → r < many → Q (.int r) (upd H' p (.lst [.ref c, .int ((at_ + 1 : Nat) : Int), .int l2])) := fun r l2 h7 h8 =>
          q r _ h7 h8 ⟨ns, at_ + 1, l2, upd_same, by rw [upd_ne npc.symm]; exact hc1, npc, hn, by omega⟩ fun b o x hb => by rw [upd_ne hb]; exact k1 b o x hb
        have h9 : ∀ r : Int, 0 ≤ r → r < many → Q (.int r) H' := fun r h7 h8 => q r _ h7 h8 ⟨ns, at_ + 1, left, hp1, hc1, npc, hn, by omega⟩ k1
        walk_at "rd"
        refine r_ite2 (fun h2 => ?_) (fun h2 => ?_)
        · walk_at "rd"
          refine r_ite2 (fun h3 => ?_) (fun h3 => ?_)
          · walk_at "rd"
            exact h6 _ _ (Int.emod_nonneg _ (by omega)) (Int.emod_lt_of_pos _ hm0)
          · walk_at "rd"
            have m1 : 0 ≤ (cell % 2147483579 + 57131 * (at_ : Int) + 211) ^ Int.toNat 5 % 2147483629 := Int.emod_nonneg _ (by decide)
            have m2 : (cell % 2147483579 + 57131 * (at_ : Int) + 211) ^ Int.toNat 5 % 2147483629 < 2147483629 := Int.emod_lt_of_pos _ (by decide)
            generalize (cell % 2147483579 + 57131 * (at_ : Int) + 211) ^ Int.toNat 5 % 2147483629 = m at m1 m2 ⊢
            have b1 := mul_bd (A := 2147483629) (B := 300000) m1 (by omega) (show 0 ≤ (at_ : Int) + 64007 by omega) (by omega)
            have b2 := mul_bd (A := 100000 * 91009) (B := 100000) (show 0 ≤ 91009 * (at_ : Int) by omega) (by omega) (show 0 ≤ (at_ : Int) by omega) (by omega)
            refine r_I (show CPow _ _ from ⟨by decide, by decide, by omega⟩) ?_
            walk_at "rd"
            exact h9 _ (Int.emod_nonneg _ (by omega)) (Int.emod_lt_of_pos _ hm0)

        · walk_at "rd"
          have m1 : 0 ≤ (cell % 2147483579 + 57131 * (at_ : Int) + 211) ^ Int.toNat 5 % 2147483629 := Int.emod_nonneg _ (by decide)
          have m2 : (cell % 2147483579 + 57131 * (at_ : Int) + 211) ^ Int.toNat 5 % 2147483629 < 2147483629 := Int.emod_lt_of_pos _ (by decide)
          generalize (cell % 2147483579 + 57131 * (at_ : Int) + 211) ^ Int.toNat 5 % 2147483629 = m at m1 m2 ⊢
          have b1 := mul_bd (A := 2147483629) (B := 300000) m1 (by omega) (show 0 ≤ (at_ : Int) + 64007 by omega) (by omega)
          have b2 := mul_bd (A := 100000 * 91009) (B := 100000) (show 0 ≤ 91009 * (at_ : Int) by omega) (by omega) (show 0 ≤ (at_ : Int) by omega) (by omega)
          refine r_I (show CPow _ _ from ⟨by decide, by decide, by omega⟩) ?_
          walk_at "rd"
          exact h9 _ (Int.emod_nonneg _ (by omega)) (Int.emod_lt_of_pos _ hm0)

end

end K10


namespace KQ
open PySem PySem.Spec PyProof.Rows L2 KB KG KO
/-! KQ: one reading for a family of derivations; C() with defaults. -/
def tEx {ι : Type} (t : ι → TE) : TE := fun σ H Q => ∃ i, t i σ H Q
theorem pe_ex {X : Cx} {e : Expr} {ι : Type} {t : ι → TE} (h : ∀ i, PE X e (t i)) : PE X e (tEx t) := ⟨fun pins s σ H Q I q => by
  obtain ⟨i, z⟩ := q
  exact (h i).run pins s σ H Q I z⟩
theorem r_exd {ι : Type} {t : ι → TE} {σ : L2.St} {H : Hp} {Q : VK} (i : ι) (q : t i σ H Q) : tEx t σ H Q := ⟨i, q⟩
theorem pe_makeD0 {X : Cx} {CX : CXT} {k : Nat} {C : Addr} {x : Str} {ps : List Str} {sp : Sp} {dvs : List V} {E : XK} {p pos : Pos} (c : KC.CalleeID X.prog X.w X.K X.mg X.base CX k C x ps sp dvs) (room : Room (k + 1) X.A) (gl : Gl X x) (pass : Passes CX X E)
    (d1 : (x == ("__debug__" : Str)) = false := by decide) : PE X (.Call (.Name x p) [] [] pos) (tMake C sp dvs E tNil) := by
  obtain ⟨f, fd, ds, F, M, hm, hb, hd⟩ := c.ex
  exact pe_make0 M F room gl hm hb hd pass d1
end KQ
namespace K10
open PySem L2 KB KO KV KY KR
def BitAt (C : Addr) (H : Hp) (a : Addr) (s : Int) : Prop := ∃ dx, H a = some (.ins C dx [("held", .int s)])
theorem BitAt.up {C : Addr} {H H' : Hp} {a : Addr} {s : Int} (h : BitAt C H a s) (k : Same H H') : BitAt C H' a s := by
  obtain ⟨dx, e⟩ := h
  exact ⟨dx, k _ _ e⟩
/-- the state of a bit, whatever stands behind it -/
def HeldAt (C : Addr) (H : Hp) (a : Addr) (s : Int) : Prop := ∃ dx fs, H a = some (.ins C dx (("held", .int s) :: fs))
theorem BitAt.held {C : Addr} {H : Hp} {a : Addr} {s : Int} (h : BitAt C H a s) : HeldAt C H a s := by
  obtain ⟨dx, e⟩ := h
  exact ⟨dx, [], e⟩
structure TxtB (K : PySem.W.Frag) (C : Addr) : Prop where
  cl : Cls K C
  n_held : NoAttr K C "held"
def isIntD : Dt → Bool
  | .sc (.int _) => true
  | _ => false
def isBoolD : Dt → Bool
  | .sc (.bl _) => true
  | _ => false
def isBit : Dt → Bool
  | .sc (.int i) => decide (i = 0 ∨ i = 1)
  | _ => false
theorem isIntD_of {t : Dt} (h : isIntD t = true) : ∃ i, t = .sc (.int i) := by
  cases t with
  | sc s => cases s with
    | int i => exact ⟨i, rfl⟩
    | non => cases h
    | bl => cases h
    | str => cases h
  | tup => cases h
  | lst => cases h
  | dct => cases h
theorem isBit_of {t : Dt} (h : isBit t = true) : ∃ i, t = .sc (.int i) ∧ (i = 0 ∨ i = 1) := by
  cases t with
  | sc s => cases s with
    | int i => exact ⟨i, rfl, of_decide_eq_true h⟩
    | non => cases h
    | bl => cases h
    | str => cases h
  | tup => cases h
  | lst => cases h
  | dct => cases h
theorem noInt_noBit {t : Dt} (h : isIntD t = false) : isBit t = false := by
  cases t with
  | sc s => cases s with
    | int i => cases h
    | non => rfl
    | bl => rfl
    | str => rfl
  | tup => rfl
  | lst => rfl
  | dct => rfl
theorem r_isIntD {K : PySem.W.Frag} {H : Hp} {Q : VK} {v : V} {t : Dt} (h : OdAt H v t) (q : Q (.bl (isIntD t || isBoolD t)) H) : rIsi K [v, .ty "int"] H Q := by
  refine ⟨v, .ty "int", _, .type "int", isIntD t || isBoolD t, rfl, .ty _, h.tyX, ?_, q⟩
  have h1 : kitB "NoneType" "int" = some false ∧ kitB "bool" "int" = some true ∧ kitB "int" "int" = some true ∧ kitB "str" "int" = some false ∧ kitB "tuple" "int" = some false ∧ kitB "list" "int" = some false ∧ kitB "dict" "int" = some false := by decide +kernel
  cases t with
  | sc s =>
    cases s with
    | non => exact kit_ty h1.1
    | bl b => exact kit_ty h1.2.1
    | int i => exact kit_ty h1.2.2.1
    | str x => exact kit_ty h1.2.2.2.1
  | tup l => exact kit_ty h1.2.2.2.2.1
  | lst l => exact kit_ty h1.2.2.2.2.2.1
  | dct l => exact kit_ty h1.2.2.2.2.2.2
theorem r_isBoolD {K : PySem.W.Frag} {H : Hp} {Q : VK} {v : V} {t : Dt} (h : OdAt H v t) (q : Q (.bl (isBoolD t)) H) : rIsi K [v, .ty "bool"] H Q := by
  refine ⟨v, .ty "bool", _, .type "bool", isBoolD t, rfl, .ty _, h.tyX, ?_, q⟩
  have h1 : kitB "NoneType" "bool" = some false ∧ kitB "bool" "bool" = some true ∧ kitB "int" "bool" = some false ∧ kitB "str" "bool" = some false ∧ kitB "tuple" "bool" = some false ∧ kitB "list" "bool" = some false ∧ kitB "dict" "bool" = some false := by decide +kernel
  cases t with
  | sc s =>
    cases s with
    | non => exact kit_ty h1.1
    | bl b => exact kit_ty h1.2.1
    | int i => exact kit_ty h1.2.2.1
    | str x => exact kit_ty h1.2.2.2.1
  | tup l => exact kit_ty h1.2.2.2.2.1
  | lst l => exact kit_ty h1.2.2.2.2.2.1
  | dct l => exact kit_ty h1.2.2.2.2.2.2
/-- the refusal of v -/
def Bad (cR : Addr) (v : V) (t : Dt) (H : Hp) (E : XK) : Prop := isBit t = false → ∀ d H', Same H H' → H' d = some (.xd [("value", v)]) → E (.ref cR) (some d) H'
def spInt : Sp := fun vs H Q _ => ∃ (v : V) (t : Dt), vs = [v] ∧ OdAt H v t ∧ Q (.bl (isIntD t)) H
def spNeed (cR : Addr) : Sp := fun vs H Q E => ∃ (v : V) (t : Dt), vs = [v] ∧ OdAt H v t ∧ (isBit t = true → ∀ H', Same H H' → Q .non H') ∧ Bad cR v t H E
def spInit (C cR : Addr) : Sp := fun vs H Q E => ∃ (a dx : Addr) (v : V) (t : Dt), vs = [.ref a, v] ∧ OdAt H v t ∧ H a = some (.ins C dx []) ∧ (∀ b, t = .sc (.int b) → (b = 0 ∨ b = 1) → ∀ H', BitAt C H' a b → Keep a H H' → Q .non H') ∧ Bad cR v t H E
def spNow (C : Addr) : Sp := fun vs H Q _ => ∃ (a : Addr) (s : Int), vs = [.ref a] ∧ HeldAt C H a s ∧ Q (.int (s % 2)) H
def spState (C : Addr) : Sp := fun vs H Q _ => ∃ (a : Addr) (s : Int), vs = [.ref a] ∧ HeldAt C H a s ∧ Q (.int s) H
/-- a read: the value; the state f s behind it -/
def spRd (C : Addr) (f : Int → Int) : Sp := fun vs H Q _ => ∃ (a : Addr) (s : Int), vs = [.ref a] ∧ BitAt C H a s ∧ ∀ H', BitAt C H' a (f s) → Keep a H H' → Q (.int (s % 2)) H'
/-- a write: the state f s b behind it, or the refusal -/
def spWr (C cR : Addr) (f : Int → Int → Int) : Sp := fun vs H Q E => ∃ (a : Addr) (s : Int) (v : V) (t : Dt), vs = [.ref a, v] ∧ OdAt H v t ∧ BitAt C H a s ∧ (∀ b, t = .sc (.int b) → (b = 0 ∨ b = 1) → ∀ H', BitAt C H' a (f s b) → Keep a H H' → Q .non H') ∧ Bad cR v t H E
/-- a deed: whether there was one, the state behind it -/
def spDe (C : Addr) (g : Int → Bool) (f : Int → Int) : Sp := fun vs H Q _ => ∃ (a : Addr) (s : Int), vs = [.ref a] ∧ BitAt C H a s ∧ ∀ H', BitAt C H' a (f s) → Keep a H H' → Q (.bl (g s)) H'

section
variable {P : Program} {w : World} {K : PySem.W.Frag} {mg : Str → Option Value} {base : Heap}
theorem ok_int {f : Addr} {fd : FuncData} {k : Nat} (F : Fun K "is_integer" "is_integer" s_is_integer f fd) (T : Txt mg) : FnOk P w K mg base CX0 (k + 1) f fd ["value"] spInt := by
  refine F.ok sc_is_integer (fun vs H Q E h => ?_) (fun cdv A outer s H vs Q E hr h => ?_)
  · obtain ⟨v, t, rfl, _⟩ := h
    rfl
  · obtain ⟨v, t, rfl, od, q⟩ := h
    refine ⟨_, (pss_one (ps_ret (pe_and (pe_callB call_isi (by rfl) T.z_isinstance (by decide +kernel) (pa_cons (pv 0) (pa_cons (pe_bltn (v := .ty "int") (by rfl) T.z_int (by decide +kernel) rfl) pa_nil))) (pe_one (pe_not (pe_callB call_isi (by rfl) T.z_isinstance (by decide +kernel) (pa_cons (pv 0) (pa_cons (pe_bltn (v := .ty "bool") (by rfl) T.z_bool (by decide +kernel) rfl) pa_nil)))))))), at_start (σ := [some v]) rfl ?_⟩
    try dsimp only [cx_K]
    walk_at "rd"
    refine r_isIntD od ?_
    walk_at "rd"
    refine r_iteB (fun h => ?_) (fun h => ?_)
    · walk_at "rd"
      refine r_isBoolD od ?_
      walk_at "rd"
      have e : (!isBoolD t) = isIntD t := by
        cases t with
        | sc s => cases s <;> first | rfl | cases h
        | tup => cases h
        | lst => cases h
        | dct => cases h
      rw [e]
      exact q
    · have e : isIntD t = false := by
        cases hh : isIntD t with
        | false => rfl
        | true => rw [hh] at h; cases h
      rw [e] at q
      walk_at "rd"
      exact q
theorem ok_need {f cR : Addr} {fd : FuncData} (F : Fun K "need_bit" "need_bit" s_need_bit f fd) (e_InvalidWord : KX.ErrMk P w K mg base cR "InvalidWord" "value") (c_is_integer : KB.Callee P w K mg base CX0 1 "is_integer" ["value"] spInt) : FnOk P w K mg base (L2.CX P w) 3 f fd ["value"] (spNeed cR) := by
  refine F.okX sc_need_bit (fun vs H Q E h => ?_) (fun cdv A outer s H vs Q E hr h => ?_)
  · obtain ⟨v, t, rfl, _⟩ := h
    rfl
  · obtain ⟨v, t, rfl, od, q, x⟩ := h
    refine ⟨_, (pss_one (ps_if (PW.pt (pw_or (pt_not (pt_val (pe_callC c_is_integer (hr.mono (by decide)) (by rfl) pass0 (pa_cons (pv 0) pa_nil)))) (pw_or1 (pt_cmpR op_notIn_seq (pv 0) (pe_tup (pa_cons pe_int (pa_cons pe_int pa_nil))) (by rfl))))) (pss_one (ps_raise rfl KL.def_takes (KX.pmkC e_InvalidWord (hr.mono (by decide)) (by rfl) (pa_cons (pv 0) pa_nil))))
 pss_nil)), at_start (σ := [some v]) rfl ?_⟩
    try dsimp only [KC.cx_KX]
    walk_at "rd"
    refine ⟨v, t, rfl, od, ?_⟩
    walk_at "rd"
    refine r_iteBN (fun z => ?_) (fun z => ?_)
    · walk_at "rd"
      refine KX.r_raiseO ?_ KX.mono_var
      walk_at "rd"
      exact fun d H' sm hd => x (noInt_noBit z) d H' sm hd
    obtain ⟨i, rfl⟩ := isIntD_of z
    obtain rfl : v = .int i := od
    walk_at "rd"
    refine ⟨by walk_at "sz", fun c1 n1 => ?_⟩
    refine r_notInI (zs := [0, 1]) (.inr (SqT.of upd_same)) ?_
    walk_at "rd"
    refine r_iteN2 (fun hi => ?_) (fun hi => ?_)
    · walk_at "rd"
      refine KX.r_raiseO ?_ KX.mono_var
      walk_at "rd"
      exact fun d H' sm hd => x (decide_eq_false (by simpa using hi)) d H' ((same_new n1).trans sm) hd
    walk_at "rd"
    exact q (decide_eq_true (by simpa using hi)) _ (same_new n1)
theorem ok_init {f C cR : Addr} {fd : FuncData} (F : FunD K "__init__" "Bit.__init__" (defArgs s_Bit___init__) (defBody s_Bit___init__) (defScope s_Bit___init__) [.int 0] [] f fd) (T : TxtB K C) (c_need_bit : KB.Callee P w K mg base (L2.CX P w) 3 "need_bit" ["value"] (spNeed cR)) : FnOk P w K mg base (L2.CX P w) 4 f fd ["self", "value"] (spInit C cR) := by
  refine F.ok sc_Bit___init__ (fun vs H Q E h => ?_) (fun cdv A outer s H vs Q E hr h => ?_)
  · obtain ⟨a, dx, v, t, rfl, _⟩ := h
    rfl
  · obtain ⟨a, dx, v, t, rfl, od, ha, q, x⟩ := h
    refine ⟨_, (pss_cons (ps_expr (pe_callC c_need_bit (hr.mono (by decide)) (by rfl) (passes_call KL.def_takes fun _ _ _ _ h => h) (pa_cons (pv 1) pa_nil)))
 (pss_one (ps_fld (pv 0) (pv 1) rfl))), at_start (σ := [some (.ref a), some v]) rfl ?_⟩
    try dsimp only [KC.cx_KX]
    walk_at "rd"
    refine ⟨v, t, rfl, od, fun hb H1 s1 => ?_, x⟩
    obtain ⟨b, rfl, hb01⟩ := isBit_of hb
    obtain rfl : v = .int b := od
    walk_at "rd"
    refine ⟨a, C, dx, _, rfl, s1 _ _ ha, T.cl, T.n_held, (by simp), ?_⟩
    exact q b rfl hb01 _ ⟨dx, upd_same⟩ fun b o e hb => by rw [upd_ne hb]; exact s1 _ _ e
theorem ok_now {f C : Addr} {fd : FuncData} {k : Nat} (F : Fun K "now" "Bit.now" s_Bit_now f fd) (T : TxtB K C) : FnOk P w K mg base CX0 (k + 1) f fd ["self"] (spNow C) := by
  refine F.ok sc_Bit_now (fun vs H Q E h => ?_) (fun cdv A outer s H vs Q E hr h => ?_)
  · obtain ⟨a, t, rfl, _⟩ := h
    rfl
  · obtain ⟨a, t, rfl, ⟨dx, fs, ha⟩, q⟩ := h
    have cl := T.cl; have nh := T.n_held
    refine ⟨_, (pss_one (ps_ret (pe_op op_mod (pe_fld (pv 0) rfl) pe_int))), at_start (σ := [some (.ref a)]) rfl ?_⟩
    try dsimp only [cx_K]
    walk_at "rd"
    exact q
theorem ok_state {f C : Addr} {fd : FuncData} {k : Nat} (F : Fun K "state" "Bit.state" s_Bit_state f fd) (T : TxtB K C) : FnOk P w K mg base CX0 (k + 1) f fd ["self"] (spState C) := by
  refine F.ok sc_Bit_state (fun vs H Q E h => ?_) (fun cdv A outer s H vs Q E hr h => ?_)
  · obtain ⟨a, t, rfl, _⟩ := h
    rfl
  · obtain ⟨a, t, rfl, ⟨dx, fs, ha⟩, q⟩ := h
    have cl := T.cl; have nh := T.n_held
    refine ⟨_, (pss_one (ps_ret (pe_fld (pv 0) rfl))), at_start (σ := [some (.ref a)]) rfl ?_⟩
    try dsimp only [cx_K]
    walk_at "rd"
    exact q
theorem ok_read {f C : Addr} {fd : FuncData} (F : Fun K "read" "Bit.read" s_Bit_read f fd) (T : TxtB K C) (p_B_now : KW.OwnP P w K mg base 1 C "now" ["self"] (spNow C)) : FnOk P w K mg base CX0 3 f fd ["self"] (spRd C fun s => s) := by
  refine F.ok sc_Bit_read (fun vs H Q E h => ?_) (fun cdv A outer s H vs Q E hr h => ?_)
  · obtain ⟨a, t, rfl, _⟩ := h
    rfl
  · obtain ⟨a, t, rfl, ba, q⟩ := h
    have cl := T.cl; have nh := T.n_held
    obtain ⟨dx, ha⟩ := id ba
    refine ⟨_, (pss_one (ps_ret (KW.pe_propO p_B_now (pv 0) (hr.mono (by decide))))), at_start (σ := [some (.ref a)]) rfl ?_⟩
    try dsimp only [cx_K]
    walk_at "rd"
    refine KW.r_prop ?_
    walk_at "rd"
    refine ⟨a, dx, _, rfl, ha, a, t, rfl, ba.held, ?_⟩
    exact q _ ba Keep.refl
theorem ok_deed {f C : Addr} {fd : FuncData} {k : Nat} (F : Fun K "deed" "Bit.deed" s_Bit_deed f fd) : FnOk P w K mg base CX0 (k + 1) f fd ["self"] (spDe C (fun _ => false) fun s => s) := by
  refine F.ok sc_Bit_deed (fun vs H Q E h => ?_) (fun cdv A outer s H vs Q E hr h => ?_)
  · obtain ⟨a, t, rfl, _⟩ := h
    rfl
  · obtain ⟨a, t, rfl, ba, q⟩ := h
    refine ⟨_, (pss_one (ps_ret pe_bl)), at_start (σ := [some (.ref a)]) rfl ?_⟩
    try dsimp only [cx_K]
    walk_at "rd"
    exact q _ ba Keep.refl
theorem ok_write_Bit {f C cR : Addr} {fd : FuncData} (F : Fun K "write" "Bit.write" s_Bit_write f fd) (T : TxtB K C) (c_need_bit : KB.Callee P w K mg base (L2.CX P w) 3 "need_bit" ["value"] (spNeed cR)) : FnOk P w K mg base (L2.CX P w) 4 f fd ["self", "bit"] (spWr C cR fun s b => b) := by
  refine F.okX sc_Bit_write (fun vs H Q E h => ?_) (fun cdv A outer s H vs Q E hr h => ?_)
  · obtain ⟨a, s0, v, t, rfl, _⟩ := h
    rfl
  · obtain ⟨a, s0, v, t, rfl, od, ba, q, x⟩ := h
    have cl := T.cl; have nh := T.n_held
    refine ⟨_, (pss_cons (ps_expr (pe_callC c_need_bit (hr.mono (by decide)) (by rfl) (passes_call KL.def_takes fun _ _ _ _ h => h) (pa_cons (pv 1) pa_nil)))
 (pss_one (ps_fld (pv 0) (pv 1) rfl))), at_start (σ := [some (.ref a), some v]) rfl ?_⟩
    try dsimp only [KC.cx_KX]
    walk_at "rd"
    refine ⟨v, t, rfl, od, fun hb H1 s1 => ?_, x⟩
    obtain ⟨b, rfl, hb01⟩ := isBit_of hb
    obtain rfl : v = .int b := od
    replace q := q b rfl hb01
    obtain ⟨dx, ha⟩ := ba.up s1
    walk_at "rd"
    refine ⟨a, C, dx, _, rfl, ha, T.cl, T.n_held, (by simp), ?_⟩
    exact q _ ⟨dx, upd_same⟩ fun b o e hb => by rw [upd_ne hb]; exact s1 _ _ e

theorem ok_write_ClearedBit {f C cR : Addr} {fd : FuncData} (F : Fun K "write" "ClearedBit.write" s_ClearedBit_write f fd) (T : TxtB K C) (c_need_bit : KB.Callee P w K mg base (L2.CX P w) 3 "need_bit" ["value"] (spNeed cR)) : FnOk P w K mg base (L2.CX P w) 4 f fd ["self", "bit"] (spWr C cR fun s b => if b = 1 then 0 else s) := by
  refine F.okX sc_ClearedBit_write (fun vs H Q E h => ?_) (fun cdv A outer s H vs Q E hr h => ?_)
  · obtain ⟨a, s0, v, t, rfl, _⟩ := h
    rfl
  · obtain ⟨a, s0, v, t, rfl, od, ba, q, x⟩ := h
    have cl := T.cl; have nh := T.n_held
    refine ⟨_, (pss_cons (ps_expr (pe_callC c_need_bit (hr.mono (by decide)) (by rfl) (passes_call KL.def_takes fun _ _ _ _ h => h) (pa_cons (pv 1) pa_nil)))
 (pss_one (ps_if (pt_cmpR op_eq (pv 1) pe_int (nomark _)) (pss_one (ps_fld (pv 0) pe_int rfl))
 pss_nil))), at_start (σ := [some (.ref a), some v]) rfl ?_⟩
    try dsimp only [KC.cx_KX]
    walk_at "rd"
    refine ⟨v, t, rfl, od, fun hb H1 s1 => ?_, x⟩
    obtain ⟨b, rfl, hb01⟩ := isBit_of hb
    obtain rfl : v = .int b := od
    replace q := q b rfl hb01
    obtain ⟨dx, ha⟩ := ba.up s1
    walk_at "rd"
    refine r_iteI2 (fun h => ?_) (fun h => ?_)
    · dsimp only at q
      rw [if_pos h] at q
      walk_at "rd"
      refine ⟨a, C, dx, _, rfl, ha, T.cl, T.n_held, (by simp), ?_⟩
      exact q _ ⟨dx, upd_same⟩ fun b o e hb => by rw [upd_ne hb]; exact s1 _ _ e
    · dsimp only at q
      rw [if_neg h] at q
      walk_at "rd"
      exact q _ ⟨dx, ha⟩ (Keep.same s1)

theorem ok_write_ZeroClearedBit {f C cR : Addr} {fd : FuncData} (F : Fun K "write" "ZeroClearedBit.write" s_ZeroClearedBit_write f fd) (T : TxtB K C) (c_need_bit : KB.Callee P w K mg base (L2.CX P w) 3 "need_bit" ["value"] (spNeed cR)) : FnOk P w K mg base (L2.CX P w) 4 f fd ["self", "bit"] (spWr C cR fun s b => if b = 0 then 0 else s) := by
  refine F.okX sc_ZeroClearedBit_write (fun vs H Q E h => ?_) (fun cdv A outer s H vs Q E hr h => ?_)
  · obtain ⟨a, s0, v, t, rfl, _⟩ := h
    rfl
  · obtain ⟨a, s0, v, t, rfl, od, ba, q, x⟩ := h
    have cl := T.cl; have nh := T.n_held
    refine ⟨_, (pss_cons (ps_expr (pe_callC c_need_bit (hr.mono (by decide)) (by rfl) (passes_call KL.def_takes fun _ _ _ _ h => h) (pa_cons (pv 1) pa_nil)))
 (pss_one (ps_if (pt_cmpR op_eq (pv 1) pe_int (nomark _)) (pss_one (ps_fld (pv 0) pe_int rfl))
 pss_nil))), at_start (σ := [some (.ref a), some v]) rfl ?_⟩
    try dsimp only [KC.cx_KX]
    walk_at "rd"
    refine ⟨v, t, rfl, od, fun hb H1 s1 => ?_, x⟩
    obtain ⟨b, rfl, hb01⟩ := isBit_of hb
    obtain rfl : v = .int b := od
    replace q := q b rfl hb01
    obtain ⟨dx, ha⟩ := ba.up s1
    walk_at "rd"
    refine r_iteI2 (fun h => ?_) (fun h => ?_)
    · dsimp only at q
      rw [if_pos h] at q
      walk_at "rd"
      refine ⟨a, C, dx, _, rfl, ha, T.cl, T.n_held, (by simp), ?_⟩
      exact q _ ⟨dx, upd_same⟩ fun b o e hb => by rw [upd_ne hb]; exact s1 _ _ e
    · dsimp only at q
      rw [if_neg h] at q
      walk_at "rd"
      exact q _ ⟨dx, ha⟩ (Keep.same s1)

theorem ok_write_SetBit {f C cR : Addr} {fd : FuncData} (F : Fun K "write" "SetBit.write" s_SetBit_write f fd) (T : TxtB K C) (c_need_bit : KB.Callee P w K mg base (L2.CX P w) 3 "need_bit" ["value"] (spNeed cR)) : FnOk P w K mg base (L2.CX P w) 4 f fd ["self", "bit"] (spWr C cR fun s b => if b = 1 then 1 else s) := by
  refine F.okX sc_SetBit_write (fun vs H Q E h => ?_) (fun cdv A outer s H vs Q E hr h => ?_)
  · obtain ⟨a, s0, v, t, rfl, _⟩ := h
    rfl
  · obtain ⟨a, s0, v, t, rfl, od, ba, q, x⟩ := h
    have cl := T.cl; have nh := T.n_held
    refine ⟨_, (pss_cons (ps_expr (pe_callC c_need_bit (hr.mono (by decide)) (by rfl) (passes_call KL.def_takes fun _ _ _ _ h => h) (pa_cons (pv 1) pa_nil)))
 (pss_one (ps_if (pt_cmpR op_eq (pv 1) pe_int (nomark _)) (pss_one (ps_fld (pv 0) pe_int rfl))
 pss_nil))), at_start (σ := [some (.ref a), some v]) rfl ?_⟩
    try dsimp only [KC.cx_KX]
    walk_at "rd"
    refine ⟨v, t, rfl, od, fun hb H1 s1 => ?_, x⟩
    obtain ⟨b, rfl, hb01⟩ := isBit_of hb
    obtain rfl : v = .int b := od
    replace q := q b rfl hb01
    obtain ⟨dx, ha⟩ := ba.up s1
    walk_at "rd"
    refine r_iteI2 (fun h => ?_) (fun h => ?_)
    · dsimp only at q
      rw [if_pos h] at q
      walk_at "rd"
      refine ⟨a, C, dx, _, rfl, ha, T.cl, T.n_held, (by simp), ?_⟩
      exact q _ ⟨dx, upd_same⟩ fun b o e hb => by rw [upd_ne hb]; exact s1 _ _ e
    · dsimp only at q
      rw [if_neg h] at q
      walk_at "rd"
      exact q _ ⟨dx, ha⟩ (Keep.same s1)

theorem ok_write_FlippedBit {f C cR : Addr} {fd : FuncData} (F : Fun K "write" "FlippedBit.write" s_FlippedBit_write f fd) (T : TxtB K C) (c_need_bit : KB.Callee P w K mg base (L2.CX P w) 3 "need_bit" ["value"] (spNeed cR)) : FnOk P w K mg base (L2.CX P w) 4 f fd ["self", "bit"] (spWr C cR fun s b => (s + b) % 2) := by
  refine F.okX sc_FlippedBit_write (fun vs H Q E h => ?_) (fun cdv A outer s H vs Q E hr h => ?_)
  · obtain ⟨a, s0, v, t, rfl, _⟩ := h
    rfl
  · obtain ⟨a, s0, v, t, rfl, od, ba, q, x⟩ := h
    have cl := T.cl; have nh := T.n_held
    refine ⟨_, (pss_cons (ps_expr (pe_callC c_need_bit (hr.mono (by decide)) (by rfl) (passes_call KL.def_takes fun _ _ _ _ h => h) (pa_cons (pv 1) pa_nil)))
 (pss_one (ps_fld (pv 0) (pe_op op_mod (pe_op op_add (pe_fld (pv 0) rfl) (pv 1)) pe_int) rfl))), at_start (σ := [some (.ref a), some v]) rfl ?_⟩
    try dsimp only [KC.cx_KX]
    walk_at "rd"
    refine ⟨v, t, rfl, od, fun hb H1 s1 => ?_, x⟩
    obtain ⟨b, rfl, hb01⟩ := isBit_of hb
    obtain rfl : v = .int b := od
    replace q := q b rfl hb01
    obtain ⟨dx, ha⟩ := ba.up s1
    walk_at "rd"
    refine ⟨a, C, dx, _, rfl, ha, T.cl, T.n_held, (by simp), ?_⟩
    exact q _ ⟨dx, upd_same⟩ fun b o e hb => by rw [upd_ne hb]; exact s1 _ _ e

theorem ok_write_OnceBit {f C cR : Addr} {fd : FuncData} (F : Fun K "write" "OnceBit.write" s_OnceBit_write f fd) (T : TxtB K C) (c_need_bit : KB.Callee P w K mg base (L2.CX P w) 3 "need_bit" ["value"] (spNeed cR)) : FnOk P w K mg base (L2.CX P w) 4 f fd ["self", "bit"] (spWr C cR fun s b => if s < 2 then 2 + b else s) := by
  refine F.okX sc_OnceBit_write (fun vs H Q E h => ?_) (fun cdv A outer s H vs Q E hr h => ?_)
  · obtain ⟨a, s0, v, t, rfl, _⟩ := h
    rfl
  · obtain ⟨a, s0, v, t, rfl, od, ba, q, x⟩ := h
    have cl := T.cl; have nh := T.n_held
    refine ⟨_, (pss_cons (ps_expr (pe_callC c_need_bit (hr.mono (by decide)) (by rfl) (passes_call KL.def_takes fun _ _ _ _ h => h) (pa_cons (pv 1) pa_nil)))
 (pss_one (ps_if (pt_cmpR op_lt (pe_fld (pv 0) rfl) pe_int (nomark _)) (pss_one (ps_fld (pv 0) (pe_op op_add pe_int (pv 1)) rfl))
 pss_nil))), at_start (σ := [some (.ref a), some v]) rfl ?_⟩
    try dsimp only [KC.cx_KX]
    walk_at "rd"
    refine ⟨v, t, rfl, od, fun hb H1 s1 => ?_, x⟩
    obtain ⟨b, rfl, hb01⟩ := isBit_of hb
    obtain rfl : v = .int b := od
    replace q := q b rfl hb01
    obtain ⟨dx, ha⟩ := ba.up s1
    walk_at "rd"
    refine r_ite2 (fun h => ?_) (fun h => ?_)
    · dsimp only at q
      rw [if_pos h] at q
      walk_at "rd"
      refine ⟨a, C, dx, _, rfl, ha, T.cl, T.n_held, (by simp), ?_⟩
      exact q _ ⟨dx, upd_same⟩ fun b o e hb => by rw [upd_ne hb]; exact s1 _ _ e
    · dsimp only at q
      rw [if_neg h] at q
      walk_at "rd"
      exact q _ ⟨dx, ha⟩ (Keep.same s1)

theorem ok_write_DeafBit {f C cR : Addr} {fd : FuncData} (F : Fun K "write" "DeafBit.write" s_DeafBit_write f fd) (T : TxtB K C) (c_need_bit : KB.Callee P w K mg base (L2.CX P w) 3 "need_bit" ["value"] (spNeed cR)) : FnOk P w K mg base (L2.CX P w) 4 f fd ["self", "bit"] (spWr C cR fun s b => s) := by
  refine F.okX sc_DeafBit_write (fun vs H Q E h => ?_) (fun cdv A outer s H vs Q E hr h => ?_)
  · obtain ⟨a, s0, v, t, rfl, _⟩ := h
    rfl
  · obtain ⟨a, s0, v, t, rfl, od, ba, q, x⟩ := h
    have cl := T.cl; have nh := T.n_held
    refine ⟨_, (pss_one (ps_expr (pe_callC c_need_bit (hr.mono (by decide)) (by rfl) (passes_call KL.def_takes fun _ _ _ _ h => h) (pa_cons (pv 1) pa_nil)))), at_start (σ := [some (.ref a), some v]) rfl ?_⟩
    try dsimp only [KC.cx_KX]
    walk_at "rd"
    refine ⟨v, t, rfl, od, fun hb H1 s1 => ?_, x⟩
    obtain ⟨b, rfl, hb01⟩ := isBit_of hb
    obtain rfl : v = .int b := od
    replace q := q b rfl hb01
    obtain ⟨dx, ha⟩ := ba.up s1
    walk_at "rd"
    exact q _ ⟨dx, ha⟩ (Keep.same s1)

end
end K10


namespace K10
open PySem L2 KB KO KV KY KR
abbrev SF (P : Program) (K : PySem.W.Frag) (f : Addr) (fd : FuncData) (n q : Str) (st : Stmt) (cda cc D : Addr) : Prop := KN.SupF P K f fd n q (defArgs st) (defBody st) (defScope st) cda cc D
theorem cx_sup {CX : CXT} {P : Program} {w : World} {K : PySem.W.Frag} {mg : Str → Option Value} {base : Heap} {N : List Str} {ql : Str} {sc : Scope} {f cda cc : Addr} {A : Around} {out : List Env} {st : Shared} {h : Hp} {W : XK} : (KX.supCx CX P w K mg base N ql sc f cda cc A out st h W).K = K := rfl
/-- what such a def that may raise lets out -/
theorem sup_takes {P : Program} {w : World} {K : PySem.W.Frag} {mg : Str → Option Value} {base : Heap} {N : List Str} {ql : Str} {sc : Scope} {f cda cc : Addr} {A : Around} {out : List Env} {st : Shared} {h : Hp} {E : XK} : Takes (KX.supCx (L2.CX P w) P w K mg base N ql sc f cda cc A out st h E) (fun cls d _ H' => E cls d H') := takes_of rfl rfl rfl rfl
/-! ### a Kind -/
def statesOf (w : Str) : List Int := if w = "once" then [0, 1, 2, 3] else [0, 1]
def flds (r w d : Str) (st : Addr) : List (Str × V) := [("reading", .str r), ("writing", .str w), ("device", .str d), ("states", .ref st)]
theorem fl_r {r w d : Str} {st : Addr} : (flds r w d st).lookup ("reading" : Str) = some (.str r) := rfl
theorem fl_w {r w d : Str} {st : Addr} : (flds r w d st).lookup ("writing" : Str) = some (.str w) := rfl
theorem fl_d {r w d : Str} {st : Addr} : (flds r w d st).lookup ("device" : Str) = some (.str d) := rfl
theorem fl_s {r w d : Str} {st : Addr} : (flds r w d st).lookup ("states" : Str) = some (.ref st) := rfl
theorem fl_no {r w d : Str} {st : Addr} : (flds r w d st).lookup ("after_read" : Str) = none ∧ (flds r w d st).lookup ("after_write" : Str) = none ∧ (flds r w d st).lookup ("unguarded" : Str) = none := ⟨rfl, rfl, rfl⟩
theorem fl_put {r w d : Str} {st : Addr} : putF "states" (.ref st) (putF "device" (.str d) (putF "writing" (.str w) (putF "reading" (.str r) []))) = flds r w d st := rfl
def KindAt (C : Addr) (H : Hp) (p : Addr) (r w d : Str) : Prop := ∃ dx st, H p = some (.ins C dx (flds r w d st)) ∧ H st = some (.tup ((statesOf w).map V.int))
theorem KindAt.up {C : Addr} {H H' : Hp} {p : Addr} {r w d : Str} (h : KindAt C H p r w d) (s : Same H H') : KindAt C H' p r w d := by
  obtain ⟨dx, st, h1, h2⟩ := h
  exact ⟨dx, st, s _ _ h1, s _ _ h2⟩
def RD : List Str := ["keep", "take"]
def WR : List Str := ["store", "clear1", "clear0", "set1", "flip1", "once", "none"]
def DV : List Str := ["still", "raise", "end", "drift"]
/-- what the text's class Kind is -/
structure TxtK (K : PySem.W.Frag) (mg : Str → Option Value) (C : Addr) : Prop extends Txt mg where
  cl : Cls K C
  n_reading : NoAttr K C "reading"
  n_writing : NoAttr K C "writing"
  n_device : NoAttr K C "device"
  n_states : NoAttr K C "states"
  mg_Kind : mg "Kind" = some (.ref C)
  con : ∃ (mc : Value) (a1 a2 a3 : Addr) (u1 u2 u3 : Value), ClX.CRead K C mc ∧ ClX.CVal K C mc "READINGS" (.ref a1) u1 ∧ ClX.CVal K C mc "WRITINGS" (.ref a2) u2 ∧ ClX.CVal K C mc "DEVICES" (.ref a3) u3 ∧
    (∀ H, SqT K H a1 (RD.map V.str)) ∧ (∀ H, SqT K H a2 (WR.map V.str)) ∧ (∀ H, SqT K H a3 (DV.map V.str))
def spKind (C : Addr) : Sp := fun vs H Q _ => ∃ (p dx : Addr) (r w d : Str), vs = [.ref p, .str r, .str w, .str d] ∧ r ∈ RD ∧ w ∈ WR ∧ d ∈ DV ∧ H p = some (.ins C dx []) ∧
  ∀ H', KindAt C H' p r w d → Keep p H H' → Q .non H'

/-! ### kinds: the mathematics -/
def afterRead (r : Str) (s : Int) : Int := if r = "take" then s - s % 2 else s
def unguarded (w : Str) (s b : Int) : Int :=
  if w = "store" then s / 2 * 2 + b else if w = "clear1" then s / 2 * 2 + s % 2 * (1 - b) else if w = "clear0" then s / 2 * 2 + s % 2 * b
  else if w = "set1" then s / 2 * 2 + (if b > s % 2 then b else s % 2) else if w = "flip1" then s / 2 * 2 + (s % 2 + b) % 2 else if w = "once" then 2 + b else s
def afterWrite (w : Str) (s b : Int) : Int := if w = "once" ∧ 1 < s then s else unguarded w s b
def spRead (C : Addr) : Sp := fun vs H Q _ => ∃ (p : Addr) (r w d : Str) (s : Int), vs = [.ref p, .int s] ∧ KindAt C H p r w d ∧ Q (.int (afterRead r s)) H
def spUng (C : Addr) : Sp := fun vs H Q _ => ∃ (p : Addr) (r w d : Str) (s b : Int), vs = [.ref p, .int s, .int b] ∧ KindAt C H p r w d ∧ Q (.int (unguarded w s b)) H
def spWrite (C : Addr) : Sp := fun vs H Q _ => ∃ (p : Addr) (r w d : Str) (s b : Int), vs = [.ref p, .int s, .int b] ∧ KindAt C H p r w d ∧ Q (.int (afterWrite w s b)) H

def movable (d : Str) : List Int := if d = "still" then [] else if d = "raise" then [0] else if d = "end" then [1] else [0, 1]
def deedsOf (d : Str) (s : Int) : List Int := if s % 2 ∈ movable d then [s + 1 - 2 * (s % 2)] else []
structure TxtM (K : PySem.W.Frag) (wd : World) (mg : Str → Option Value) (C dM : Addr) : Prop extends TxtK K mg C where
  ty : ∀ {H : Hp} {a dx : Addr} {fs : List (Str × V)}, H a = some (.ins C dx fs) → TyX K H (.ref a) (.ref C)
  isi : PySem.W.kitOne K (.ref C) (.ref C) = some true
  mg_MOVABLE : mg "MOVABLE" = some (.ref dM)
  mov : ∃ es n, KDict K wd dM es n
  item : ∀ d ∈ DV, ∃ a, PySem.W.nsIn K dM d = some (some (.ref a)) ∧ ∀ H, SqT K H a ((movable d).map V.int)
def spDeedsK (C : Addr) : Sp := fun vs H Q _ => ∃ (p : Addr) (r w d : Str) (s : Int), vs = [.ref p, .int s] ∧ KindAt C H p r w d ∧ d ∈ DV ∧ ∀ H' a, Same H H' → H' a = some (.tup ((deedsOf d s).map V.int)) → Q (.ref a) H'
def spEq (C : Addr) : Sp := fun vs H Q _ => ∃ (p p' : Addr) (r w d r' w' d' : Str), vs = [.ref p, .ref p'] ∧ KindAt C H p r w d ∧ KindAt C H p' r' w' d' ∧ Q (.bl (decide (r = r' ∧ w = w' ∧ d = d'))) H

def spKInit (C cR : Addr) : Sp := fun vs H Q E => ∃ (a dx k : Addr) (v : V) (t : Dt), vs = [.ref a, .ref k, v] ∧ OdAt H v t ∧ H a = some (.ins C dx []) ∧ (∀ b, t = .sc (.int b) → (b = 0 ∨ b = 1) → ∀ H' dx', H' a = some (.ins C dx' [("held", .int b), ("kind", .ref k)]) → Keep a H H' → Q .non H') ∧ Bad cR v t H E
/-- a bit of a kind -/
def KBAt (C CK : Addr) (H : Hp) (a : Addr) (s : Int) (k : Addr) (r w d : Str) : Prop := (∃ dx, H a = some (.ins C dx [("held", .int s), ("kind", .ref k)])) ∧ KindAt CK H k r w d
theorem KBAt.held {C CK : Addr} {H : Hp} {a : Addr} {s : Int} {k : Addr} {r w d : Str} (h : KBAt C CK H a s k r w d) : HeldAt C H a s := by
  obtain ⟨⟨dx, e⟩, _⟩ := h
  exact ⟨dx, _, e⟩
theorem KBAt.up {C CK : Addr} {H H' : Hp} {a : Addr} {s : Int} {k : Addr} {r w d : Str} (h : KBAt C CK H a s k r w d) (m : Same H H') : KBAt C CK H' a s k r w d := by
  obtain ⟨⟨dx, e⟩, kd⟩ := h
  exact ⟨⟨dx, m _ _ e⟩, kd.up m⟩
theorem KBAt.set {C CK : Addr} {H : Hp} {a dx : Addr} {s s' : Int} {k : Addr} {r w d : Str} (e : H a = some (.ins C dx [("held", .int s), ("kind", .ref k)])) (kd : KindAt CK H k r w d) (n : k ≠ a) : KBAt C CK (upd H a (.ins C dx [("held", .int s'), ("kind", .ref k)])) a s' k r w d := by
  obtain ⟨dy, st, h1, h2⟩ := kd
  refine ⟨⟨dx, upd_same⟩, dy, st, by rw [upd_ne n]; exact h1, ?_⟩
  have : st ≠ a := fun z => by rw [z, e] at h2; cases h2
  rw [upd_ne this]
  exact h2
def spKRd (C CK : Addr) : Sp := fun vs H Q _ => ∃ (a k : Addr) (s : Int) (r w d : Str), vs = [.ref a] ∧ k ≠ a ∧ KBAt C CK H a s k r w d ∧ ∀ H', KBAt C CK H' a (afterRead r s) k r w d → Keep a H H' → Q (.int (s % 2)) H'
def spKWr (C CK cR : Addr) : Sp := fun vs H Q E => ∃ (a k : Addr) (s : Int) (r w d : Str) (v : V) (t : Dt), vs = [.ref a, v] ∧ OdAt H v t ∧ k ≠ a ∧ KBAt C CK H a s k r w d ∧ (∀ b, t = .sc (.int b) → (b = 0 ∨ b = 1) → ∀ H', KBAt C CK H' a (afterWrite w s b) k r w d → Keep a H H' → Q .non H') ∧ Bad cR v t H E
def spKDe (C CK : Addr) : Sp := fun vs H Q _ => ∃ (a k : Addr) (s : Int) (r w d : Str), vs = [.ref a] ∧ k ≠ a ∧ d ∈ DV ∧ KBAt C CK H a s k r w d ∧ ∀ H', KBAt C CK H' a ((deedsOf d s ++ [s]).headD 0) k r w d → Keep a H H' → Q (.bl (decide (deedsOf d s ≠ []))) H'
theorem deeds_one (d : Str) (s : Int) : deedsOf d s = [] ∨ ∃ t, deedsOf d s = [t] := by
  unfold deedsOf
  split
  · exact .inr ⟨_, rfl⟩
  · exact .inl rfl

section
variable {P : Program} {w : World} {K : PySem.W.Frag} {mg : Str → Option Value} {base : Heap}
theorem ok_tread {f C cda cc D : Addr} {fd : FuncData} (F : SF P K f fd "read" "TakenBit.read" s_TakenBit_read cda cc D) (T : TxtB K C) (hm : mg "super" = none) (cs : KN.SupM P w K mg base CX0 3 C D "read" ["self"] (spRd C fun s => s)) : FnOk P w K mg base CX0 5 f fd ["self"] (spRd C fun s => s - s % 2) := by
  refine F.ok sc_TakenBit_read (fun vs H Q E h => ?_) (fun A outer s H vs Q E hr h => ?_)
  · obtain ⟨a, t, rfl, _⟩ := h
    rfl
  · obtain ⟨a, t, rfl, ba, q⟩ := h
    have cl := T.cl; have nh := T.n_held
    obtain ⟨dx, ha⟩ := id ba
    refine ⟨_, (KN.pssa_cons (KN.psa_set (i := 1) sc_TakenBit_read.nd rfl rfl (KN.pea_super0 F sc_TakenBit_read rfl rfl (by decide) hm cs (hr.mono (by decide)) pass0)) (KN.pssa_any (pss_cons (ps_fld (pv 0) (pe_op op_sub (pe_fld (pv 0) rfl) (pv 1)) rfl)
 (pss_one (ps_ret (pv 1)))))), at_start (σ := [some (.ref a), none]) rfl ?_⟩
    try dsimp only [cx_sup]
    walk_at "rd"
    refine KN.r_sup rfl ha ?_
    walk_at "rd"
    refine ⟨a, t, rfl, ba, fun H1 b1 k1 => ?_⟩
    obtain ⟨dx1, ha1⟩ := b1
    walk_at "rd"
    refine ⟨a, C, dx1, _, rfl, ha1, T.cl, T.n_held, (by simp), ?_⟩
    walk_at "rd"
    exact q _ ⟨dx1, upd_same⟩ fun b o e hb => by rw [upd_ne hb]; exact k1 _ _ e hb
theorem ok_rdeed {f C cda cc D : Addr} {fd : FuncData} {g0 : Int → Bool} {f0 : Int → Int} {k : Nat} (F : SF P K f fd "deed" "RaisedBit.deed" s_RaisedBit_deed cda cc D) (T : TxtB K C) (hm : mg "super" = none) (p_B_now : KW.OwnP P w K mg base 1 C "now" ["self"] (spNow C)) (cs : KN.SupM P w K mg base CX0 (k + 3) C D "deed" ["self"] (spDe C g0 f0)) :
    FnOk P w K mg base CX0 (k + 5) f fd ["self"] (spDe C (fun s => if s % 2 = 1 then g0 s else true) (fun s => if s % 2 = 1 then f0 s else s + 1)) := by
  refine F.ok sc_RaisedBit_deed (fun vs H Q E h => ?_) (fun A outer s H vs Q E hr h => ?_)
  · obtain ⟨a, t, rfl, _⟩ := h
    rfl
  · obtain ⟨a, t, rfl, ba, q⟩ := h
    have cl := T.cl; have nh := T.n_held
    obtain ⟨dx, ha⟩ := id ba
    have hr0 := hr
    have hr := hr.mono (show 4 ≤ k + 4 by omega)
    refine ⟨_, (KN.pssa_cons (KN.psa_if (pt_cmpR op_eq (KW.pe_propO p_B_now (pv 0) (hr.mono (by decide))) pe_int (nomark _)) (KN.pssa_one (KN.psa_ret (KN.pea_super0 F sc_RaisedBit_deed rfl rfl (by decide) hm cs (hr0.mono (by omega)) pass0))) (KN.pssa_any pss_nil)) (KN.pssa_any (pss_cons (ps_fld (pv 0) (pe_op op_add (pe_fld (pv 0) rfl) pe_int) rfl)
 (pss_one (ps_ret pe_bl))))), at_start (σ := [some (.ref a)]) rfl ?_⟩
    try dsimp only [cx_sup]
    walk_at "rd"
    refine KW.r_prop ?_
    walk_at "rd"
    refine ⟨a, dx, _, rfl, ha, a, t, rfl, ba.held, ?_⟩
    walk_at "rd"
    dsimp only at q
    refine r_iteI2 (fun h => ?_) (fun h => ?_)
    · rw [if_pos h, if_pos h] at q
      walk_at "rd"
      refine KN.r_sup rfl ha ?_
      walk_at "rd"
      exact ⟨a, t, rfl, ba, q⟩
    · rw [if_neg h, if_neg h] at q
      walk_at "rd"
      refine ⟨a, C, dx, _, rfl, ha, T.cl, T.n_held, (by simp), ?_⟩
      walk_at "rd"
      exact q _ ⟨dx, upd_same⟩ fun b o e hb => by rw [upd_ne hb]; exact e
theorem ok_edeed {f C cda cc D : Addr} {fd : FuncData} {g0 : Int → Bool} {f0 : Int → Int} {k : Nat} (F : SF P K f fd "deed" "EndedBit.deed" s_EndedBit_deed cda cc D) (T : TxtB K C) (hm : mg "super" = none) (p_B_now : KW.OwnP P w K mg base 1 C "now" ["self"] (spNow C)) (cs : KN.SupM P w K mg base CX0 (k + 3) C D "deed" ["self"] (spDe C g0 f0)) :
    FnOk P w K mg base CX0 (k + 5) f fd ["self"] (spDe C (fun s => if s % 2 = 0 then g0 s else true) (fun s => if s % 2 = 0 then f0 s else s - 1)) := by
  refine F.ok sc_EndedBit_deed (fun vs H Q E h => ?_) (fun A outer s H vs Q E hr h => ?_)
  · obtain ⟨a, t, rfl, _⟩ := h
    rfl
  · obtain ⟨a, t, rfl, ba, q⟩ := h
    have cl := T.cl; have nh := T.n_held
    obtain ⟨dx, ha⟩ := id ba
    have hr0 := hr
    have hr := hr.mono (show 4 ≤ k + 4 by omega)
    refine ⟨_, (KN.pssa_cons (KN.psa_if (pt_cmpR op_eq (KW.pe_propO p_B_now (pv 0) (hr.mono (by decide))) pe_int (nomark _)) (KN.pssa_one (KN.psa_ret (KN.pea_super0 F sc_EndedBit_deed rfl rfl (by decide) hm cs (hr0.mono (by omega)) pass0))) (KN.pssa_any pss_nil)) (KN.pssa_any (pss_cons (ps_fld (pv 0) (pe_op op_sub (pe_fld (pv 0) rfl) pe_int) rfl)
 (pss_one (ps_ret pe_bl))))), at_start (σ := [some (.ref a)]) rfl ?_⟩
    try dsimp only [cx_sup]
    walk_at "rd"
    refine KW.r_prop ?_
    walk_at "rd"
    refine ⟨a, dx, _, rfl, ha, a, t, rfl, ba.held, ?_⟩
    walk_at "rd"
    dsimp only at q
    refine r_iteI2 (fun h => ?_) (fun h => ?_)
    · rw [if_pos h, if_pos h] at q
      walk_at "rd"
      refine KN.r_sup rfl ha ?_
      walk_at "rd"
      exact ⟨a, t, rfl, ba, q⟩
    · rw [if_neg h, if_neg h] at q
      walk_at "rd"
      refine ⟨a, C, dx, _, rfl, ha, T.cl, T.n_held, (by simp), ?_⟩
      walk_at "rd"
      exact q _ ⟨dx, upd_same⟩ fun b o e hb => by rw [upd_ne hb]; exact e
theorem ok_kinit {f C cR cda cc D : Addr} {fd : FuncData} (F : SF P K f fd "__init__" "KindBit.__init__" s_KindBit___init__ cda cc D) (T : TxtB K C) (n_kind : NoAttr K C "kind") (hm : mg "super" = none) (cs : KN.SupM P w K mg base (L2.CX P w) 4 C D "__init__" ["self", "value"] (spInit C cR)) : FnOk P w K mg base (L2.CX P w) 6 f fd ["self", "kind", "value"] (spKInit C cR) := by
  refine F.ok sc_KindBit___init__ (fun vs H Q E h => ?_) (fun A outer s H vs Q E hr h => ?_)
  · obtain ⟨a, dx, k, v, t, rfl, _⟩ := h
    rfl
  · obtain ⟨a, dx, k, v, t, rfl, od, ha, q, x⟩ := h
    refine ⟨_, (KN.pssa_cons (KN.psa_expr (KN.pea_super F sc_KindBit___init__ rfl rfl (by decide) hm cs (hr.mono (by decide)) (passes_call sup_takes fun _ _ _ _ h => h) (pa_cons (pv 2) pa_nil)) rfl) (KN.pssa_any (pss_one (ps_fld (pv 0) (pv 1) rfl)))), at_start (σ := [some (.ref a), some (.ref k), some v]) rfl ?_⟩
    try dsimp only [cx_sup]
    walk_at "rd"
    refine KN.r_sup rfl ha ?_
    walk_at "rd"
    refine ⟨a, dx, v, t, rfl, od, ha, fun b eb hb H1 b1 k1 => ?_, x⟩
    obtain ⟨dx1, ha1⟩ := b1
    walk_at "rd"
    refine ⟨a, C, dx1, _, rfl, ha1, T.cl, n_kind, (by simp), ?_⟩
    walk_at "rd"
    exact q b eb hb _ dx1 upd_same fun b o e hb => by rw [upd_ne hb]; exact k1 _ _ e hb
theorem ok_kind {f C : Addr} {fd : FuncData} {k : Nat} (F : Fun K "__init__" "Kind.__init__" s_Kind___init__ f fd) (T : TxtK K mg C) : FnOk P w K mg base CX0 (k + 1) f fd ["self", "reading", "writing", "device"] (spKind C) := by
  refine F.ok sc_Kind___init__ (fun vs H Q E h => ?_) (fun cdv A outer s H vs Q E hr h => ?_)
  · obtain ⟨p, dx, r, w, d, rfl, _⟩ := h
    rfl
  · obtain ⟨p, dx, r, w, d, rfl, hr1, hw1, hd1, hp, q⟩ := h
    obtain ⟨mc, a1, a2, a3, u1, u2, u3, cr, v1, v2, v3, t1, t2, t3⟩ := T.con
    refine ⟨_, (pss_cons (ps_for PassesOwn.never rfl (pi_tup (pe_tup (pa_cons (pe_tup (pa_cons (pv 1) (pa_cons (ClX.pe_cval (pe_glob (v := .ref _) (by rfl) T.mg_Kind rfl)) pa_nil))) (pa_cons (pe_tup (pa_cons (pv 2) (pa_cons (ClX.pe_cval (pe_glob (v := .ref _) (by rfl) T.mg_Kind rfl)) pa_nil))) (pa_cons (pe_tup (pa_cons (pv 3) (pa_cons (ClX.pe_cval (pe_glob (v := .ref _) (by rfl) T.mg_Kind rfl)) pa_nil))) pa_nil))))) (pg_tup rfl (pgs_cons (pg_name (i := 4) sc_Kind___init__.nd rfl (by first | exact Or.inl rfl | exact Or.inr rfl)) (pgs_cons (pg_name (i := 5) sc_Kind___init__.nd rfl (by first | exact Or.inl rfl | exact Or.inr rfl)) pgs_nil)))
 (pss_one (ps_if (pt_cmpR op_notIn_seq (pv 4) (pv 5) (by rfl)) (pss_one ps_never)
 pss_nil)))
 (pss_cons (ps_fld (pv 0) (pv 1) rfl)
 (pss_cons (ps_fld (pv 0) (pv 2) rfl)
 (pss_cons (ps_fld (pv 0) (pv 3) rfl)
 (pss_one (ps_fld (pv 0) (pe_ifExp (pt_cmpR op_eq (pv 2) pe_str (nomark _)) (pe_tup (pa_cons pe_int (pa_cons pe_int (pa_cons pe_int (pa_cons pe_int pa_nil))))) (pe_tup (pa_cons pe_int (pa_cons pe_int pa_nil)))) rfl)))))), at_start (σ := [some (.ref p), some (.str r), some (.str w), some (.str d), none, none]) rfl ?_⟩
    dsimp only [cx_K]
    walk_at "rd"
    refine ⟨by walk_at "sz", fun c1 n1 => ?_⟩
    walk_at "rd"
    refine ⟨by walk_at "sz", fun c2 n2 => ?_⟩
    walk_at "rd"
    refine ⟨by walk_at "sz", fun c3 n3 => ?_⟩
    walk_at "rd"
    refine ⟨by walk_at "sz", fun c4 n4 => ?_⟩
    have s4 := (((same_new (o := .tup [.str r, .ref a1]) n1).trans (same_new (o := .tup [.str w, .ref a2]) n2)).trans (same_new (o := .tup [.str d, .ref a3]) n3)).trans (same_new (o := .tup [.ref c1, .ref c2, .ref c3]) n4)
    have g1 : (upd (upd (upd (upd H c1 (.tup [.str r, .ref a1])) c2 (.tup [.str w, .ref a2])) c3 (.tup [.str d, .ref a3])) c4 (.tup [.ref c1, .ref c2, .ref c3])) c1 = some (.tup [.str r, .ref a1]) := by walk_at "hp"
    have g2 : (upd (upd (upd (upd H c1 (.tup [.str r, .ref a1])) c2 (.tup [.str w, .ref a2])) c3 (.tup [.str d, .ref a3])) c4 (.tup [.ref c1, .ref c2, .ref c3])) c2 = some (.tup [.str w, .ref a2]) := by walk_at "hp"
    have g3 : (upd (upd (upd (upd H c1 (.tup [.str r, .ref a1])) c2 (.tup [.str w, .ref a2])) c3 (.tup [.str d, .ref a3])) c4 (.tup [.ref c1, .ref c2, .ref c3])) c3 = some (.tup [.str d, .ref a3]) := by walk_at "hp"
    have g4 : (upd (upd (upd (upd H c1 (.tup [.str r, .ref a1])) c2 (.tup [.str w, .ref a2])) c3 (.tup [.str d, .ref a3])) c4 (.tup [.ref c1, .ref c2, .ref c3])) c4 = some (.tup [.ref c1, .ref c2, .ref c3]) := by walk_at "hp"
    generalize (upd (upd (upd (upd H c1 (.tup [.str r, .ref a1])) c2 (.tup [.str w, .ref a2])) c3 (.tup [.str d, .ref a3])) c4 (.tup [.ref c1, .ref c2, .ref c3])) = H4 at s4 g1 g2 g3 g4 ⊢
    refine ⟨c4, rfl, ⟨_, SqT.of g4⟩, forW (walk_tup (xs := [.ref c1, .ref c2, .ref c3])) (fun i σ H' => ∃ y4 y5, σ = [some (.ref p), some (.str r), some (.str w), some (.str d), y4, y5] ∧ H' = H4) ⟨none, none, rfl, rfl⟩ (fun i σ H' _ ⟨_, _, _, e⟩ => e ▸ SqT.of g4) ?_ ?_⟩
    · rintro i x σ' H' _ hi0 ⟨y4, y5, rfl, rfl⟩ ⟨rfl, hi⟩
      have cs : (x = .ref c1 ∨ x = .ref c2 ∨ x = .ref c3) := by
        have := List.mem_of_getElem? hi
        simpa using this
      rcases cs with rfl | rfl | rfl
      · refine ⟨_, _, rfl, SqT.of g1, rfl, _, _, rfl, _, _, rfl, rfl, ?_⟩
        walk_at "rd"
        refine r_notInS (zs := RD) (.inr (t1 _)) ?_
        walk_at "rd"
        refine r_iteNF hr1 ?_
        walk_at "rd"
        exact ⟨_, _, rfl, rfl⟩
      · refine ⟨_, _, rfl, SqT.of g2, rfl, _, _, rfl, _, _, rfl, rfl, ?_⟩
        walk_at "rd"
        refine r_notInS (zs := WR) (.inr (t2 _)) ?_
        walk_at "rd"
        refine r_iteNF hw1 ?_
        walk_at "rd"
        exact ⟨_, _, rfl, rfl⟩
      · refine ⟨_, _, rfl, SqT.of g3, rfl, _, _, rfl, _, _, rfl, rfl, ?_⟩
        walk_at "rd"
        refine r_notInS (zs := DV) (.inr (t3 _)) ?_
        walk_at "rd"
        refine r_iteNF hd1 ?_
        walk_at "rd"
        exact ⟨_, _, rfl, rfl⟩
    · rintro σ' H' ⟨y4, y5, rfl, rfl⟩
      have hp4 := s4 _ _ hp
      walk_at "rd"
      refine ⟨p, C, dx, _, rfl, hp4, T.cl, T.n_reading, (by decide), ?_⟩
      walk_at "rd"
      refine ⟨p, C, dx, _, rfl, upd_same, T.cl, T.n_writing, putF_lt0 (by decide), ?_⟩
      walk_at "rd"
      refine ⟨p, C, dx, _, rfl, upd_same, T.cl, T.n_device, putF_lt0 (putF_lt (by decide)), ?_⟩
      walk_at "rd"
      have fin : ∀ st, (upd (upd (upd H' p (.ins C dx (putF "reading" (.str r) []))) p (.ins C dx (putF "writing" (.str w) (putF "reading" (.str r) [])))) p (.ins C dx (putF "device" (.str d) (putF "writing" (.str w) (putF "reading" (.str r) []))))) st = none →
          Q .non (upd (upd (upd (upd (upd H' p (.ins C dx (putF "reading" (.str r) []))) p (.ins C dx (putF "writing" (.str w) (putF "reading" (.str r) [])))) p (.ins C dx (putF "device" (.str d) (putF "writing" (.str w) (putF "reading" (.str r) []))))) st (.tup ((statesOf w).map V.int))) p (.ins C dx (flds r w d st))) := by
        intro st hst
        have np : p ≠ st := fun z => by rw [← z, upd_same] at hst; cases hst
        refine q _ ⟨dx, st, upd_same, by rw [upd_ne np.symm, upd_same]⟩ fun b o e hb => ?_
        rw [upd_ne hb, upd_new hst]
        rw [upd_ne hb, upd_ne hb, upd_ne hb]
        exact s4 _ _ e
      refine r_ite2 (fun h => ?_) (fun h => ?_)
      · have h' : w = "once" := V.str.inj h
        walk_at "rd"
        refine ⟨by walk_at "sz", fun st hst => ?_⟩
        have np : p ≠ st := fun z => by rw [← z, upd_same] at hst; cases hst
        walk_at "rd"
        refine ⟨p, C, dx, _, rfl, by rw [upd_ne np]; exact upd_same, T.cl, T.n_states, putF_lt0 (putF_lt (putF_lt (by decide))), ?_⟩
        have := fin st hst
        rw [statesOf, if_pos h'] at this
        exact this
      · have h' : ¬ w = "once" := fun z => h (by rw [z])
        walk_at "rd"
        refine ⟨by walk_at "sz", fun st hst => ?_⟩
        have np : p ≠ st := fun z => by rw [← z, upd_same] at hst; cases hst
        walk_at "rd"
        refine ⟨p, C, dx, _, rfl, by rw [upd_ne np]; exact upd_same, T.cl, T.n_states, putF_lt0 (putF_lt (putF_lt (by decide))), ?_⟩
        have := fin st hst
        rw [statesOf, if_neg h'] at this
        exact this

theorem ok_after_read {f C : Addr} {fd : FuncData} {k : Nat} (F : Fun K "after_read" "Kind.after_read" s_Kind_after_read f fd) (T : TxtK K mg C) : FnOk P w K mg base CX0 (k + 1) f fd ["self", "state"] (spRead C) := by
  refine F.ok sc_Kind_after_read (fun vs H Q E h => ?_) (fun cdv A outer s H vs Q E hr h => ?_)
  · obtain ⟨p, r, w, d, s, rfl, _⟩ := h
    rfl
  · obtain ⟨p, r, w, d, s, rfl, ⟨dx, st, h1, h2⟩, q⟩ := h
    refine ⟨_, (pss_one (ps_ret (pe_ifExp (pt_cmpR op_eq (pe_fld (pv 0) rfl) pe_str (nomark _)) (pe_op op_sub (pv 1) (pe_op op_mod (pv 1) pe_int)) (pv 1)))), at_start (σ := [some (.ref p), some (.int s)]) rfl ?_⟩
    dsimp only [cx_K]
    walk_at "rd"
    refine ⟨p, C, dx, _, _, rfl, h1, T.cl, T.n_reading, fl_r, ?_⟩
    walk_at "rd"
    unfold afterRead at q
    refine r_ite2 (fun h => ?_) (fun h => ?_)
    · have h' : r = "take" := V.str.inj h
      rw [if_pos h'] at q
      walk_at "rd"
      exact q
    · have h' : ¬ r = "take" := fun z => h (by rw [z])
      rw [if_neg h'] at q
      walk_at "rd"
      exact q
theorem ok_unguarded {f C : Addr} {fd : FuncData} {k : Nat} (F : Fun K "unguarded" "Kind.unguarded" s_Kind_unguarded f fd) (T : TxtK K mg C) : FnOk P w K mg base CX0 (k + 1) f fd ["self", "state", "bit"] (spUng C) := by
  refine F.ok sc_Kind_unguarded (fun vs H Q E h => ?_) (fun cdv A outer s H vs Q E hr h => ?_)
  · obtain ⟨p, r, w, d, s, b, rfl, _⟩ := h
    rfl
  · obtain ⟨p, r, w, d, s, b, rfl, ⟨dx, st, h1, h2⟩, q⟩ := h
    refine ⟨_, (pss_cons (ps_par (i := 3) (j := 4) (by rfl) sc_Kind_unguarded.nd rfl rfl (by decide) rfl rfl (pa_cons (pe_op op_mul (pe_op op_fdiv (pv 1) pe_int) pe_int) (pa_cons (pe_op op_mod (pv 1) pe_int) pa_nil)) (by rfl))
 (pss_cons (ps_match (pe_fld (pv 0) rfl) (pm_str (pss_one (ps_ret (pe_op op_add (pv 3) (pv 2))))
 (pm_str (pss_one (ps_ret (pe_op op_add (pv 3) (pe_op op_mul (pv 4) (pe_op op_sub pe_int (pv 2))))))
 (pm_str (pss_one (ps_ret (pe_op op_add (pv 3) (pe_op op_mul (pv 4) (pv 2)))))
 (pm_str (pss_one (ps_ret (pe_op op_add (pv 3) (pe_callB (call_max2 rfl) (by rfl) T.z_max (by decide +kernel) (pa_cons (pv 4) (pa_cons (pv 2) pa_nil))))))
 (pm_str (pss_one (ps_ret (pe_op op_add (pv 3) (pe_op op_mod (pe_op op_add (pv 4) (pv 2)) pe_int))))
 (pm_str (pss_one (ps_ret (pe_op op_add pe_int (pv 2))))
 pm_nil)))))))
 (pss_one (ps_ret (pv 1))))), at_start (σ := [some (.ref p), some (.int s), some (.int b), none, none]) rfl ?_⟩
    dsimp only [cx_K]
    walk_at "rd"
    refine ⟨_, _, rfl, ?_⟩
    walk_at "rd"
    refine ⟨p, C, dx, _, _, rfl, h1, T.cl, T.n_writing, fl_w, ?_⟩
    unfold unguarded at q
    walk_at "rd"
    refine r_ite2 (fun h => ?_) (fun h => ?_)
    · rw [if_pos h] at q
      walk_at "rd"
      exact q
    rw [if_neg h] at q
    walk_at "rd"
    refine r_ite2 (fun h => ?_) (fun h => ?_)
    · rw [if_pos h] at q
      walk_at "rd"
      exact q
    rw [if_neg h] at q
    walk_at "rd"
    refine r_ite2 (fun h => ?_) (fun h => ?_)
    · rw [if_pos h] at q
      walk_at "rd"
      exact q
    rw [if_neg h] at q
    walk_at "rd"
    refine r_ite2 (fun h => ?_) (fun h => ?_)
    · rw [if_pos h] at q
      walk_at "rd"
      exact q
    rw [if_neg h] at q
    walk_at "rd"
    refine r_ite2 (fun h => ?_) (fun h => ?_)
    · rw [if_pos h] at q
      walk_at "rd"
      exact q
    rw [if_neg h] at q
    walk_at "rd"
    refine r_ite2 (fun h => ?_) (fun h => ?_)
    · rw [if_pos h] at q
      walk_at "rd"
      exact q
    rw [if_neg h] at q
    walk_at "rd"
    exact q
theorem ok_after_write {f C : Addr} {fd : FuncData} {k j : Nat} (F : Fun K "after_write" "Kind.after_write" s_Kind_after_write f fd) (T : TxtK K mg C) (c_Kind_unguarded : CalleeM P w K mg base CX0 1 C "unguarded" ["self", "state", "bit"] (spUng C)) : FnOk P w K mg base CX0 2 f fd ["self", "state", "bit"] (spWrite C) := by
  refine F.ok sc_Kind_after_write (fun vs H Q E h => ?_) (fun cdv A outer s H vs Q E hr h => ?_)
  · obtain ⟨p, r, w, d, s, b, rfl, _⟩ := h
    rfl
  · obtain ⟨p, r, w, d, s, b, rfl, KA, q⟩ := h
    obtain ⟨dx, st, h1, h2⟩ := id KA
    refine ⟨_, (pss_cons (ps_if (PW.pt (pw_and (pt_cmpR op_eq (pe_fld (pv 0) rfl) pe_str (nomark _)) (pw_and1 (pt_cmpR op_gt (pv 1) pe_int (nomark _))))) (pss_one (ps_ret (pv 1)))
 pss_nil)
 (pss_one (ps_ret (pe_methC c_Kind_unguarded (pv 0) (hr.mono (by decide)) pass0 (pa_cons (pv 1) (pa_cons (pv 2) pa_nil)))))), at_start (σ := [some (.ref p), some (.int s), some (.int b)]) rfl ?_⟩
    dsimp only [cx_K]
    walk_at "rd"
    refine ⟨p, C, dx, _, _, rfl, h1, T.cl, T.n_writing, fl_w, ?_⟩
    unfold afterWrite at q
    walk_at "rd"
    have call : ¬ (w = "once" ∧ 1 < s) → spUng C [.ref p, .int s, .int b] H Q E0 := fun h => ⟨p, r, w, d, s, b, rfl, KA, by rw [if_neg h] at q; exact q⟩
    refine r_ite2 (fun h => ?_) (fun h => ?_)
    · have h' : w = "once" := V.str.inj h
      walk_at "rd"
      refine r_ite2 (fun h2 => ?_) (fun h2 => ?_)
      · rw [if_pos ⟨h', h2⟩] at q
        walk_at "rd"
        exact q
      · walk_at "rd"
        refine ⟨p, dx, _, rfl, h1, fl_no.2.2, ?_⟩
        walk_at "rd"
        exact call fun z => h2 z.2
    · walk_at "rd"
      refine ⟨p, dx, _, rfl, h1, fl_no.2.2, ?_⟩
      walk_at "rd"
      exact call fun z => h (by rw [z.1])

theorem ok_deedsK {f C dM : Addr} {fd : FuncData} {k : Nat} (F : Fun K "deeds" "Kind.deeds" s_Kind_deeds f fd) (T : TxtM K w mg C dM) : FnOk P w K mg base CX0 (k + 1) f fd ["self", "state"] (spDeedsK C) := by
  refine F.ok sc_Kind_deeds (fun vs H Q E h => ?_) (fun cdv A outer s H vs Q E hr h => ?_)
  · obtain ⟨p, r, w, d, s, rfl, _⟩ := h
    rfl
  · obtain ⟨p, r, w, d, s, rfl, ⟨dx, st, h1, h2⟩, hd, q⟩ := h
    obtain ⟨es, n, kd_MOVABLE⟩ := T.mov
    obtain ⟨a, ia, sa⟩ := T.item d hd
    refine ⟨_, (pss_cons (ps_set (i := 2) sc_Kind_deeds.nd rfl (by first | exact Or.inl rfl | exact Or.inr rfl) (pe_op op_mod (pv 1) pe_int))
 (pss_cons (ps_if (pt_cmpR op_notIn_seq (pv 2) (pe_ix (KO.ix_kd kd_MOVABLE) (pe_glob (v := .ref _) (by rfl) T.mg_MOVABLE rfl) (pe_fld (pv 0) rfl) (fun _ _ => rfl)) (by rfl)) (pss_one (ps_ret (pe_tup pa_nil)))
 pss_nil)
 (pss_one (ps_ret (pe_tup (pa_cons (pe_op op_sub (pe_op op_add (pv 1) pe_int) (pe_op op_mul pe_int (pv 2))) pa_nil)))))), at_start (σ := [some (.ref p), some (.int s), none]) rfl ?_⟩
    dsimp only [cx_K]
    walk_at "rd"
    refine ⟨p, C, dx, _, _, rfl, h1, T.cl, T.n_device, fl_d, ?_⟩
    refine ⟨d, _, .ref a, rfl, rfl, ia, rfl, ?_⟩
    refine r_notInI (zs := movable d) (.inr (sa _)) ?_
    walk_at "rd"
    walk_at "sp"
    · rename_i hn
      rw [show deedsOf d s = [] from if_neg hn] at q
      refine ⟨by walk_at "sz", fun c1 n1 => ?_⟩
      exact q _ c1 (same_new n1) upd_same
    · rename_i hn
      rw [show deedsOf d s = [_] from if_pos hn] at q
      refine ⟨by walk_at "sz", fun c1 n1 => ?_⟩
      exact q _ c1 (same_new n1) upd_same
theorem ok_eqK {f C dM : Addr} {fd : FuncData} {k : Nat} (F : Fun K "__eq__" "Kind.__eq__" s_Kind___eq__ f fd) (T : TxtM K w mg C dM) : FnOk P w K mg base CX0 (k + 1) f fd ["self", "other"] (spEq C) := by
  refine F.ok sc_Kind___eq__ (fun vs H Q E h => ?_) (fun cdv A outer s H vs Q E hr h => ?_)
  · obtain ⟨p, p', r, w, d, r', w', d', rfl, _⟩ := h
    rfl
  · obtain ⟨p, p', r, w, d, r', w', d', rfl, ⟨dx, st, h1, h2⟩, ⟨dx', st', h1', h2'⟩, q⟩ := h
    refine ⟨_, (pss_one (ps_ret (pe_and (pe_callB call_isi (by rfl) T.z_isinstance (by decide +kernel) (pa_cons (pv 1) (pa_cons (pe_glob (v := .ref _) (by rfl) T.mg_Kind rfl) pa_nil))) (pe_and (pe_cmpR op_eq (pe_fld (pv 0) rfl) (pe_fld (pv 1) rfl) (nomark _)) (pe_and (pe_cmpR op_eq (pe_fld (pv 0) rfl) (pe_fld (pv 1) rfl) (nomark _)) (pe_one (pe_cmpR op_eq (pe_fld (pv 0) rfl) (pe_fld (pv 1) rfl) (nomark _)))))))), at_start (σ := [some (.ref p), some (.ref p')]) rfl ?_⟩
    dsimp only [cx_K]
    have cl := T.cl; have nr := T.n_reading; have nw := T.n_writing; have nd := T.n_device
    walk_at "rd"
    refine ⟨_, _, _, _, true, rfl, .own C, T.ty h1', T.isi, ?_⟩
    walk_at "rd"
    walk_at "sp"
    · rename_i a b
      subst a b
      have e : decide (V.str d = V.str d') = decide (r = r ∧ w = w ∧ d = d') := by simp
      rw [e]
      exact q
    · rename_i a b
      rw [decide_eq_false (fun z => b z.2.1)] at q
      exact q
    · rename_i a
      rw [decide_eq_false (fun z => a z.1)] at q
      exact q

theorem ok_kread {f C CK : Addr} {fd : FuncData} (F : Fun K "read" "KindBit.read" s_KindBit_read f fd) (T : TxtB K C) (n_kind : NoAttr K C "kind") (p_KB_now : KW.OwnP P w K mg base 1 C "now" ["self"] (spNow C)) (c_Kind_after_read : CalleeM P w K mg base CX0 1 CK "after_read" ["self", "state"] (spRead CK)) : FnOk P w K mg base CX0 3 f fd ["self"] (spKRd C CK) := by
  refine F.ok sc_KindBit_read (fun vs H Q E h => ?_) (fun cdv A outer s H vs Q E hr h => ?_)
  · obtain ⟨a, k, s, r, w, d, rfl, _⟩ := h
    rfl
  · obtain ⟨a, k, t, r, wr, d, rfl, nk, kb, q⟩ := h
    have cl := T.cl; have nh := T.n_held
    have kb' := kb
    obtain ⟨⟨dx, ha⟩, kd⟩ := kb'
    obtain ⟨dy, st, hk, hst⟩ := id kd
    refine ⟨_, (pss_cons (ps_set (i := 1) sc_KindBit_read.nd rfl (by first | exact Or.inl rfl | exact Or.inr rfl) (KW.pe_propO p_KB_now (pv 0) (hr.mono (by decide))))
 (pss_cons (ps_fld (pv 0) (pe_methC c_Kind_after_read (pe_fld (pv 0) rfl) (hr.mono (by decide)) pass0 (pa_cons (pe_fld (pv 0) rfl) pa_nil)) rfl)
 (pss_one (ps_ret (pv 1))))), at_start (σ := [some (.ref a), none]) rfl ?_⟩
    try dsimp only [cx_K]
    walk_at "rd"
    refine KW.r_prop ?_
    walk_at "rd"
    refine ⟨a, dx, _, rfl, ha, a, t, rfl, kb.held, ?_⟩
    walk_at "rd"
    refine ⟨k, dy, _, rfl, hk, rfl, ?_⟩
    walk_at "rd"
    refine ⟨k, r, wr, d, t, rfl, kd, ?_⟩
    walk_at "rd"
    refine ⟨a, C, dx, _, rfl, ha, T.cl, T.n_held, (by simp), ?_⟩
    walk_at "rd"
    exact q _ (KBAt.set ha kd nk) fun b o e hb => by rw [upd_ne hb]; exact e
end
end K10


namespace K10
open PySem L2 KB KO KV KY KR
theorem r_eqIntsT {K : PySem.W.Frag} {H : Hp} {Q : VK} {a b : Addr} {ns ms : List Int} (h : SqT K H a (ns.map V.int)) (h' : SqT K H b (ms.map V.int)) (q : Q (.bl (decide (ns = ms))) H) : rEqD K (.ref a) (.ref b) H Q :=
  ⟨_, _, .tup h (dp_ints ns), .tup h' (dp_ints ms), shaped_ints ns, shaped_ints ms, (show Q (.bl (PyData.eqvAll (ns.map PyData.int) (ms.map PyData.int))) H by rw [eqv_ints]; exact q)⟩

section
variable {P : Program} {w : World} {K : PySem.W.Frag} {mg : Str → Option Value} {base : Heap}
theorem ok_kwrite {f C CK cR : Addr} {fd : FuncData} (F : Fun K "write" "KindBit.write" s_KindBit_write f fd) (T : TxtB K C) (n_kind : NoAttr K C "kind") (c_need_bit : KB.Callee P w K mg base (L2.CX P w) 3 "need_bit" ["value"] (spNeed cR)) (c_Kind_after_write : CalleeM P w K mg base CX0 2 CK "after_write" ["self", "state", "bit"] (spWrite CK)) : FnOk P w K mg base (L2.CX P w) 4 f fd ["self", "bit"] (spKWr C CK cR) := by
  refine F.okX sc_KindBit_write (fun vs H Q E h => ?_) (fun cdv A outer s H vs Q E hr h => ?_)
  · obtain ⟨a, k, s, r, w, d, v, t, rfl, _⟩ := h
    rfl
  · obtain ⟨a, k, s0, r, wr, d, v, t, rfl, od, nk, kb, q, x⟩ := h
    have cl := T.cl; have nh := T.n_held
    refine ⟨_, (pss_cons (ps_expr (pe_callC c_need_bit (hr.mono (by decide)) (by rfl) (passes_call KL.def_takes fun _ _ _ _ h => h) (pa_cons (pv 1) pa_nil)))
 (pss_one (ps_fld (pv 0) (pe_methC c_Kind_after_write (pe_fld (pv 0) rfl) (hr.mono (by decide)) pass0 (pa_cons (pe_fld (pv 0) rfl) (pa_cons (pv 1) pa_nil))) rfl))), at_start (σ := [some (.ref a), some v]) rfl ?_⟩
    try dsimp only [KC.cx_KX]
    walk_at "rd"
    refine ⟨v, t, rfl, od, fun hb H1 s1 => ?_, x⟩
    obtain ⟨b, rfl, hb01⟩ := isBit_of hb
    obtain rfl : v = .int b := od
    replace q := q b rfl hb01
    have kb1 := kb.up s1
    obtain ⟨⟨dx, ha⟩, kd⟩ := id kb1
    obtain ⟨dy, st, hk, hst⟩ := id kd
    walk_at "rd"
    refine ⟨k, dy, _, rfl, hk, rfl, ?_⟩
    walk_at "rd"
    refine ⟨k, r, wr, d, s0, b, rfl, kd, ?_⟩
    walk_at "rd"
    refine ⟨a, C, dx, _, rfl, ha, T.cl, T.n_held, (by simp), ?_⟩
    exact q _ (KBAt.set ha kd nk) fun b o e hb => by rw [upd_ne hb]; exact s1 _ _ e
theorem ok_kdeed {f C CK : Addr} {fd : FuncData} (F : Fun K "deed" "KindBit.deed" s_KindBit_deed f fd) (T : TxtB K C) (n_kind : NoAttr K C "kind") (c_Kind_deeds : CalleeM P w K mg base CX0 1 CK "deeds" ["self", "state"] (spDeedsK CK)) : FnOk P w K mg base CX0 3 f fd ["self"] (spKDe C CK) := by
  refine F.ok sc_KindBit_deed (fun vs H Q E h => ?_) (fun cdv A outer s H vs Q E hr h => ?_)
  · obtain ⟨a, k, s, r, w, d, rfl, _⟩ := h
    rfl
  · obtain ⟨a, k, s0, r, wr, d, rfl, nk, hd, kb, q⟩ := h
    have cl := T.cl; have nh := T.n_held
    obtain ⟨⟨dx, ha⟩, kd⟩ := id kb
    obtain ⟨dy, st, hk, hst⟩ := id kd
    refine ⟨_, (pss_cons (ps_set (i := 1) sc_KindBit_deed.nd rfl (by first | exact Or.inl rfl | exact Or.inr rfl) (pe_methC c_Kind_deeds (pe_fld (pv 0) rfl) (hr.mono (by decide)) pass0 (pa_cons (pe_fld (pv 0) rfl) pa_nil)))
 (pss_cons (ps_if (pt_cmpR (op_eqD hr.units) (pv 1) (pe_tup pa_nil) (nomark _)) (pss_one (ps_ret pe_bl))
 pss_nil)
 (pss_cons (ps_fld (pv 0) (pe_ix ix_tup (pv 1) pe_int (fun _ _ => rfl)) rfl)
 (pss_one (ps_ret pe_bl))))), at_start (σ := [some (.ref a), none]) rfl ?_⟩
    try dsimp only [cx_K]
    walk_at "rd"
    refine ⟨k, dy, _, rfl, hk, rfl, ?_⟩
    walk_at "rd"
    refine ⟨k, r, wr, d, s0, rfl, kd, hd, fun H1 e1 s1 g1 => ?_⟩
    have kb1 := kb.up s1
    walk_at "rd"
    refine ⟨by walk_at "sz", fun c1 n1 => ?_⟩
    refine r_eqIntsT (ns := deedsOf d s0) (ms := []) (SqT.of (upd_new n1 g1)) (SqT.of upd_same) ?_
    walk_at "rd"
    rcases deeds_one d s0 with e0 | ⟨t, e0⟩
    · rw [e0] at q ⊢
      refine r_iteT rfl ?_
      walk_at "rd"
      exact q _ (kb1.up (same_new n1)) (Keep.same (s1.trans (same_new n1)))
    · rw [e0] at q g1 ⊢
      refine r_iteF (by simp) ?_
      have kb2 := kb1.up (same_new (o := .tup []) n1)
      have g2 := upd_new (o := .tup []) n1 g1
      have s2 := s1.trans (same_new (o := .tup []) n1)
      generalize upd H1 c1 (.tup []) = H2 at kb2 g2 s2 ⊢
      obtain ⟨⟨dx2, ha2⟩, kd2⟩ := id kb2
      walk_at "rd"
      refine ⟨a, C, dx2, _, rfl, ha2, T.cl, T.n_held, (by simp), ?_⟩
      walk_at "rd"
      exact q _ (KBAt.set ha2 kd2 nk) fun b o e hb => by rw [upd_ne hb]; exact s2 _ _ e
end
end K10


namespace K10
open PySem L2 KB KO KV KY KR
def TXTS : List Str := ["keep store still", "take store still", "keep clear1 still", "keep clear0 still", "keep set1 still", "keep flip1 still", "keep once still", "keep none still", "keep store raise", "keep store end", "keep store drift", "keep clear1 raise", "take none raise", "keep set1 end", "keep none drift", "take once still"]
def WDL : List (Str × Str × Str) := [("keep", "store", "still"), ("take", "store", "still"), ("keep", "clear1", "still"), ("keep", "clear0", "still"), ("keep", "set1", "still"), ("keep", "flip1", "still"), ("keep", "once", "still"), ("keep", "none", "still"), ("keep", "store", "raise"), ("keep", "store", "end"), ("keep", "store", "drift"), ("keep", "clear1", "raise"), ("take", "none", "raise"), ("keep", "set1", "end"), ("keep", "none", "drift"), ("take", "once", "still")]
def ABV : List (List Nat) := [[0], [0, 1], [0, 2], [0, 3], [0, 4], [0, 5], [0, 6], [0, 7], [0, 8], [0, 9], [0, 8, 9, 10], [0, 2, 8, 11], [0, 1, 7, 8, 12], [0, 4, 9, 13], [0, 7, 8, 9, 10, 14], [0, 1, 6, 15], [0, 16]]
def NML : List Str := ["Bit", "TakenBit", "ClearedBit", "ZeroClearedBit", "SetBit", "FlippedBit", "OnceBit", "DeafBit", "RaisedBit", "EndedBit", "DriftingBit", "EventBit", "TakenEventBit", "StartBit", "GaugeBit", "SealedBit", "KindBit"]
def frL : List (Int → Int) := [fun s => s, fun s => s - s % 2, fun s => s, fun s => s, fun s => s, fun s => s, fun s => s, fun s => s, fun s => s, fun s => s, fun s => s, fun s => s, fun s => s - s % 2, fun s => s, fun s => s, fun s => s - s % 2]
def fwL : List (Int → Int → Int) := [fun _ b => b, fun _ b => b, fun s b => if b = 1 then 0 else s, fun s b => if b = 0 then 0 else s, fun s b => if b = 1 then 1 else s, fun s b => (s + b) % 2, fun s b => if s < 2 then 2 + b else s, fun s _ => s, fun _ b => b, fun _ b => b, fun _ b => b, fun s b => if b = 1 then 0 else s, fun s _ => s, fun s b => if b = 1 then 1 else s, fun s _ => s, fun s b => if s < 2 then 2 + b else s]
def gdL : List (Int → Bool) := [fun _ => false, fun _ => false, fun _ => false, fun _ => false, fun _ => false, fun _ => false, fun _ => false, fun _ => false, fun s => if s % 2 = 1 then false else true, fun s => if s % 2 = 0 then false else true, fun s => if s % 2 = 1 then (if s % 2 = 0 then false else true) else true, fun s => if s % 2 = 1 then false else true, fun s => if s % 2 = 1 then false else true, fun s => if s % 2 = 0 then false else true, fun s => if s % 2 = 1 then (if s % 2 = 0 then false else true) else true, fun _ => false]
def fdL : List (Int → Int) := [fun s => s, fun s => s, fun s => s, fun s => s, fun s => s, fun s => s, fun s => s, fun s => s, fun s => if s % 2 = 1 then s else s + 1, fun s => if s % 2 = 0 then s else s - 1, fun s => if s % 2 = 1 then (if s % 2 = 0 then s else s - 1) else s + 1, fun s => if s % 2 = 1 then s else s + 1, fun s => if s % 2 = 1 then s else s + 1, fun s => if s % 2 = 0 then s else s - 1, fun s => if s % 2 = 1 then (if s % 2 = 0 then s else s - 1) else s + 1, fun s => s]
def rN (n : Nat) : Str := (WDL.getD n ("", "", "")).1
def wN (n : Nat) : Str := (WDL.getD n ("", "", "")).2.1
def dN (n : Nat) : Str := (WDL.getD n ("", "", "")).2.2
def ab (n j : Nat) : Bool := decide (j ∈ ABV.getD n [])
def fr (n : Nat) : Int → Int := frL.getD n fun s => s
def fw (n : Nat) : Int → Int → Int := fwL.getD n fun s _ => s
def gd (n : Nat) : Int → Bool := gdL.getD n fun _ => false
def fdd (n : Nat) : Int → Int := fdL.getD n fun s => s
def nmN (n : Nat) : Str := NML.getD n ""
/-! ### the plain law -/
theorem words_in : ∀ n < 16, rN n ∈ RD ∧ wN n ∈ WR ∧ dN n ∈ DV := by decide +kernel
theorem split_is : ∀ n < 16, Txt.split (TXTS.getD n "") " " = [rN n, wN n, dN n] ∧ (TXTS.getD n "").length ≤ 40 := by decide +kernel
theorem read_is : ∀ n < 16, ∀ s ∈ statesOf (wN n), fr n s = afterRead (rN n) s ∧ fr n s ∈ statesOf (wN n) := by decide +kernel
theorem write_is : ∀ n < 16, ∀ s ∈ statesOf (wN n), ∀ b ∈ ([0, 1] : List Int), fw n s b = afterWrite (wN n) s b ∧ fw n s b ∈ statesOf (wN n) := by decide +kernel
theorem deed_is : ∀ n < 16, ∀ s ∈ statesOf (wN n), gd n s = decide (deedsOf (dN n) s ≠ []) ∧ fdd n s = (deedsOf (dN n) s ++ [s]).headD 0 ∧ fdd n s ∈ statesOf (wN n) := by decide +kernel
theorem same_two {H : Hp} {x dx C : Addr} (nx : H x = none) (ndx : H dx = none) : Same H (upd (upd H dx (.own x)) x (.ins C dx [])) := fun c o e => by rw [upd_ne (ne_of_none e nx), upd_ne (ne_of_none e ndx)]; exact e
structure TxtF (mg : Str → Option Value) (cl : Nat → Addr) : Prop extends Txt mg where
  mg_Bit : mg "Bit" = some (.ref (cl 0))
  mg_TakenBit : mg "TakenBit" = some (.ref (cl 1))
  mg_ClearedBit : mg "ClearedBit" = some (.ref (cl 2))
  mg_ZeroClearedBit : mg "ZeroClearedBit" = some (.ref (cl 3))
  mg_SetBit : mg "SetBit" = some (.ref (cl 4))
  mg_FlippedBit : mg "FlippedBit" = some (.ref (cl 5))
  mg_OnceBit : mg "OnceBit" = some (.ref (cl 6))
  mg_DeafBit : mg "DeafBit" = some (.ref (cl 7))
  mg_RaisedBit : mg "RaisedBit" = some (.ref (cl 8))
  mg_EndedBit : mg "EndedBit" = some (.ref (cl 9))
  mg_DriftingBit : mg "DriftingBit" = some (.ref (cl 10))
  mg_EventBit : mg "EventBit" = some (.ref (cl 11))
  mg_TakenEventBit : mg "TakenEventBit" = some (.ref (cl 12))
  mg_StartBit : mg "StartBit" = some (.ref (cl 13))
  mg_GaugeBit : mg "GaugeBit" = some (.ref (cl 14))
  mg_SealedBit : mg "SealedBit" = some (.ref (cl 15))
  mg_KindBit : mg "KindBit" = some (.ref (cl 16))
/-- a write of 0 or 1 -/
def spWr0 (C : Addr) (f : Int → Int → Int) : Sp := fun vs H Q _ => ∃ (a : Addr) (s b : Int), vs = [.ref a, .int b] ∧ (b = 0 ∨ b = 1) ∧ BitAt C H a s ∧ ∀ H', BitAt C H' a (f s b) → Keep a H H' → Q .non H'
/-- what a class of the family is -/
structure Fam (P : Program) (w : World) (K : PySem.W.Frag) (mg : Str → Option Value) (base : Heap) (cl : Nat → Addr) (cR : Addr) (n : Nat) : Prop where
  tb : TxtB K (cl n)
  m_read : CalleeM P w K mg base CX0 5 (cl n) "read" ["self"] (spRd (cl n) (fr n))
  k_write : CalleeMK P w K mg base 4 (cl n) "write" ["self", "bit"] (spWr0 (cl n) (fw n)) 0 ["bit"] (fun us zs => us ++ zs)
  m_write : CalleeM P w K mg base (L2.CX P w) 4 (cl n) "write" ["self", "bit"] (spWr (cl n) cR (fw n))
  m_deed : CalleeM P w K mg base CX0 9 (cl n) "deed" ["self"] (spDe (cl n) (gd n) (fdd n))
  p_now : KW.OwnP P w K mg base 1 (cl n) "now" ["self"] (spNow (cl n))
  p_state : KW.OwnP P w K mg base 1 (cl n) "state" ["self"] (spState (cl n))
  m_make : CalleeI P w K mg base (L2.CX P w) 4 (cl n) (nmN n) ["self", "value"] (spInit (cl n) cR)
def spWordsOf : Sp := fun vs H Q _ => ∃ n : Nat, vs = [.int n] ∧ n < 16 ∧ ∀ H' a, Same H H' → H' a = some (.tup [.str (rN n), .str (wN n), .str (dN n)]) → Q (.ref a) H'
/-- a bit of class n is made, or the value is refused -/
def spMkBit (cl : Nat → Addr) (cR : Addr) (m : Nat) : Sp := fun vs H Q E => ∃ (n : Nat) (v : V) (t : Dt), vs = [.int n, v] ∧ n < m ∧ OdAt H v t ∧ (∀ b, t = .sc (.int b) → (b = 0 ∨ b = 1) → ∀ H' a, H a = none → Same H H' → BitAt (cl n) H' a b → Q (.ref a) H') ∧ Bad cR v t H E

section
variable {P : Program} {w : World} {K : PySem.W.Frag} {mg : Str → Option Value} {base : Heap}
theorem ok_wordsof {f : Addr} {fd : FuncData} (F : Fun K "_law_words_of" "_law_words_of" s__law_words_of f fd) (T : Txt mg) : FnOk P w K mg base CX0 1 f fd ["_law_number"] spWordsOf := by
  refine F.ok sc__law_words_of (fun vs H Q E h => ?_) (fun cdv A outer s H vs Q E hr h => ?_)
  · obtain ⟨n, rfl, _⟩ := h
    rfl
  · obtain ⟨n, rfl, hn, q⟩ := h
    obtain ⟨e1, e2⟩ := split_is n hn
    refine ⟨_, (pss_cons (ps_set (i := 1) sc__law_words_of.nd rfl (by first | exact Or.inl rfl | exact Or.inr rfl) (pe_lst (pa_cons pe_str (pa_cons pe_str (pa_cons pe_str (pa_cons pe_str (pa_cons pe_str pa_nil)))))))
 (pss_cons (ps_set (i := 1) sc__law_words_of.nd rfl (by first | exact Or.inl rfl | exact Or.inr rfl) (pe_op op_cat (pv 1) (pe_lst (pa_cons pe_str (pa_cons pe_str (pa_cons pe_str (pa_cons pe_str (pa_cons pe_str pa_nil))))))))
 (pss_cons (ps_set (i := 1) sc__law_words_of.nd rfl (by first | exact Or.inl rfl | exact Or.inr rfl) (pe_op op_cat (pv 1) (pe_lst (pa_cons pe_str (pa_cons pe_str (pa_cons pe_str (pa_cons pe_str (pa_cons pe_str pa_nil))))))))
 (pss_one (ps_ret (pe_callTy call_tuple_of (by rfl) T.z_tuple (by decide +kernel) (pa_cons (pe_split (pe_ix ix_list (pe_op op_cat (pv 1) (pe_lst (pa_cons pe_str pa_nil))) (pv 0) (fun _ _ => rfl)) pe_str) pa_nil))))))), at_start (σ := [some (.int n), none]) rfl ?_⟩
    try dsimp only [cx_K]
    walk_at "rd"
    refine ⟨by walk_at "sz", fun c0 n0 => ?_⟩
    walk_at "rd"
    refine ⟨by walk_at "sz", fun c1 n1 => ?_⟩
    refine r_cat (by walk_at "hp") upd_same (by simp; decide) fun d1 m1 => ?_
    walk_at "rd"
    refine ⟨by walk_at "sz", fun c2 n2 => ?_⟩
    refine r_cat (by walk_at "hp") upd_same (by simp; decide) fun d2 m2 => ?_
    walk_at "rd"
    refine ⟨by walk_at "sz", fun c3 n3 => ?_⟩
    refine r_cat (by walk_at "hp") upd_same (by simp; decide) fun d3 m3 => ?_
    walk_at "rd"
    have hl : n < TXTS.length := hn
    refine r_ixL (xs := TXTS.map V.str) (v := .str (TXTS.getD n "")) (SqL.of upd_same) (atI_nat (by rw [List.getElem?_map, List.getD_eq_getElem?_getD, List.getElem?_eq_getElem hl]; rfl)) ?_
    walk_at "rd"
    refine ⟨_, " ", rfl, rfl, by decide, Nat.le_trans (Nat.add_le_add_right e2 2) (by decide), fun p np => ?_⟩
    rw [e1]
    walk_at "rd"
    refine ⟨p, _, rfl, .inl ⟨SqL.of upd_same, fun l nl => ?_⟩⟩
    refine q _ l ?_ upd_same
    exact ((((((((same_new n0).trans (same_new n1)).trans (same_new m1)).trans (same_new n2)).trans (same_new m2)).trans (same_new n3)).trans (same_new m3)).trans (same_new np)).trans (same_new nl)
theorem ok_plain {f cR : Addr} {fd : FuncData} {cl : Nat → Addr} (F : Fun K "_law_plain_bit" "_law_plain_bit" s__law_plain_bit f fd) (FM : ∀ i : Fin 16, Fam P w K mg base cl cR i.val) : FnOk P w K mg base (L2.CX P w) 6 f fd ["_law_number", "_law_begin"] (spMkBit cl cR 8) := by
  refine F.okX sc__law_plain_bit (fun vs H Q E h => ?_) (fun cdv A outer s H vs Q E hr h => ?_)
  · obtain ⟨n, v, t, rfl, _⟩ := h
    rfl
  · obtain ⟨n, v, t, rfl, hn, od, q, bad⟩ := h
    have c_Bit___init__ : CalleeI P w K mg base (L2.CX P w) 4 (cl 0) "Bit" ["self", "value"] (spInit (cl 0) cR) := (FM ⟨0, by decide⟩).m_make
    have c_TakenBit___init__ : CalleeI P w K mg base (L2.CX P w) 4 (cl 1) "TakenBit" ["self", "value"] (spInit (cl 1) cR) := (FM ⟨1, by decide⟩).m_make
    have c_ClearedBit___init__ : CalleeI P w K mg base (L2.CX P w) 4 (cl 2) "ClearedBit" ["self", "value"] (spInit (cl 2) cR) := (FM ⟨2, by decide⟩).m_make
    have c_ZeroClearedBit___init__ : CalleeI P w K mg base (L2.CX P w) 4 (cl 3) "ZeroClearedBit" ["self", "value"] (spInit (cl 3) cR) := (FM ⟨3, by decide⟩).m_make
    have c_SetBit___init__ : CalleeI P w K mg base (L2.CX P w) 4 (cl 4) "SetBit" ["self", "value"] (spInit (cl 4) cR) := (FM ⟨4, by decide⟩).m_make
    have c_FlippedBit___init__ : CalleeI P w K mg base (L2.CX P w) 4 (cl 5) "FlippedBit" ["self", "value"] (spInit (cl 5) cR) := (FM ⟨5, by decide⟩).m_make
    have c_OnceBit___init__ : CalleeI P w K mg base (L2.CX P w) 4 (cl 6) "OnceBit" ["self", "value"] (spInit (cl 6) cR) := (FM ⟨6, by decide⟩).m_make
    have c_DeafBit___init__ : CalleeI P w K mg base (L2.CX P w) 4 (cl 7) "DeafBit" ["self", "value"] (spInit (cl 7) cR) := (FM ⟨7, by decide⟩).m_make
    refine ⟨_, (pss_cons (ps_if (pt_cmpR op_eq (pv 0) pe_int (nomark _)) (pss_one (ps_ret (pe_makeC c_Bit___init__ (hr.mono (by decide)) (by rfl) (passes_call KL.def_takes fun _ _ _ _ h => h) (pa_cons (pv 1) pa_nil))))
 pss_nil)
 (pss_cons (ps_if (pt_cmpR op_eq (pv 0) pe_int (nomark _)) (pss_one (ps_ret (pe_makeC c_TakenBit___init__ (hr.mono (by decide)) (by rfl) (passes_call KL.def_takes fun _ _ _ _ h => h) (pa_cons (pv 1) pa_nil))))
 pss_nil)
 (pss_cons (ps_if (pt_cmpR op_eq (pv 0) pe_int (nomark _)) (pss_one (ps_ret (pe_makeC c_ClearedBit___init__ (hr.mono (by decide)) (by rfl) (passes_call KL.def_takes fun _ _ _ _ h => h) (pa_cons (pv 1) pa_nil))))
 pss_nil)
 (pss_cons (ps_if (pt_cmpR op_eq (pv 0) pe_int (nomark _)) (pss_one (ps_ret (pe_makeC c_ZeroClearedBit___init__ (hr.mono (by decide)) (by rfl) (passes_call KL.def_takes fun _ _ _ _ h => h) (pa_cons (pv 1) pa_nil))))
 pss_nil)
 (pss_cons (ps_if (pt_cmpR op_eq (pv 0) pe_int (nomark _)) (pss_one (ps_ret (pe_makeC c_SetBit___init__ (hr.mono (by decide)) (by rfl) (passes_call KL.def_takes fun _ _ _ _ h => h) (pa_cons (pv 1) pa_nil))))
 pss_nil)
 (pss_cons (ps_if (pt_cmpR op_eq (pv 0) pe_int (nomark _)) (pss_one (ps_ret (pe_makeC c_FlippedBit___init__ (hr.mono (by decide)) (by rfl) (passes_call KL.def_takes fun _ _ _ _ h => h) (pa_cons (pv 1) pa_nil))))
 pss_nil)
 (pss_cons (ps_if (pt_cmpR op_eq (pv 0) pe_int (nomark _)) (pss_one (ps_ret (pe_makeC c_OnceBit___init__ (hr.mono (by decide)) (by rfl) (passes_call KL.def_takes fun _ _ _ _ h => h) (pa_cons (pv 1) pa_nil))))
 pss_nil)
 (pss_one (ps_ret (pe_makeC c_DeafBit___init__ (hr.mono (by decide)) (by rfl) (passes_call KL.def_takes fun _ _ _ _ h => h) (pa_cons (pv 1) pa_nil))))))))))), at_start (σ := [some (.int n), some v]) rfl ?_⟩
    try dsimp only [KC.cx_KX]
    have fin : ∀ (b : Int) (x dx : Addr) (H1 : Hp), t = .sc (.int b) → (b = 0 ∨ b = 1) → H x = none → H dx = none → dx ≠ x → BitAt (cl n) H1 x b → Keep x (upd (upd H dx (.own x)) x (.ins (cl n) dx [])) H1 → Q (.ref x) H1 := fun b x dx H1 eb hb nx ndx nxd b1 k1 =>
      q b eb hb _ x nx (fun c o e => k1 _ _ (same_two nx ndx _ _ e) (ne_of_none e nx)) b1
    walk_at "rd"
    refine r_iteI2 (fun h => ?_) (fun h => ?_)
    · obtain rfl : n = 0 := by omega
      walk_at "rd"
      intro x dx nx ndx nxd
      exact ⟨x, dx, v, t, rfl, od.same (same_two nx ndx), upd_same, fun b eb hb H1 b1 k1 => ⟨rfl, fin b x dx H1 eb hb nx ndx nxd b1 k1⟩, fun z d H1 sm hd => bad z d H1 ((same_two nx ndx).trans sm) hd⟩
    walk_at "rd"
    refine r_iteI2 (fun h => ?_) (fun h => ?_)
    · obtain rfl : n = 1 := by omega
      walk_at "rd"
      intro x dx nx ndx nxd
      exact ⟨x, dx, v, t, rfl, od.same (same_two nx ndx), upd_same, fun b eb hb H1 b1 k1 => ⟨rfl, fin b x dx H1 eb hb nx ndx nxd b1 k1⟩, fun z d H1 sm hd => bad z d H1 ((same_two nx ndx).trans sm) hd⟩
    walk_at "rd"
    refine r_iteI2 (fun h => ?_) (fun h => ?_)
    · obtain rfl : n = 2 := by omega
      walk_at "rd"
      intro x dx nx ndx nxd
      exact ⟨x, dx, v, t, rfl, od.same (same_two nx ndx), upd_same, fun b eb hb H1 b1 k1 => ⟨rfl, fin b x dx H1 eb hb nx ndx nxd b1 k1⟩, fun z d H1 sm hd => bad z d H1 ((same_two nx ndx).trans sm) hd⟩
    walk_at "rd"
    refine r_iteI2 (fun h => ?_) (fun h => ?_)
    · obtain rfl : n = 3 := by omega
      walk_at "rd"
      intro x dx nx ndx nxd
      exact ⟨x, dx, v, t, rfl, od.same (same_two nx ndx), upd_same, fun b eb hb H1 b1 k1 => ⟨rfl, fin b x dx H1 eb hb nx ndx nxd b1 k1⟩, fun z d H1 sm hd => bad z d H1 ((same_two nx ndx).trans sm) hd⟩
    walk_at "rd"
    refine r_iteI2 (fun h => ?_) (fun h => ?_)
    · obtain rfl : n = 4 := by omega
      walk_at "rd"
      intro x dx nx ndx nxd
      exact ⟨x, dx, v, t, rfl, od.same (same_two nx ndx), upd_same, fun b eb hb H1 b1 k1 => ⟨rfl, fin b x dx H1 eb hb nx ndx nxd b1 k1⟩, fun z d H1 sm hd => bad z d H1 ((same_two nx ndx).trans sm) hd⟩
    walk_at "rd"
    refine r_iteI2 (fun h => ?_) (fun h => ?_)
    · obtain rfl : n = 5 := by omega
      walk_at "rd"
      intro x dx nx ndx nxd
      exact ⟨x, dx, v, t, rfl, od.same (same_two nx ndx), upd_same, fun b eb hb H1 b1 k1 => ⟨rfl, fin b x dx H1 eb hb nx ndx nxd b1 k1⟩, fun z d H1 sm hd => bad z d H1 ((same_two nx ndx).trans sm) hd⟩
    walk_at "rd"
    refine r_iteI2 (fun h => ?_) (fun h => ?_)
    · obtain rfl : n = 6 := by omega
      walk_at "rd"
      intro x dx nx ndx nxd
      exact ⟨x, dx, v, t, rfl, od.same (same_two nx ndx), upd_same, fun b eb hb H1 b1 k1 => ⟨rfl, fin b x dx H1 eb hb nx ndx nxd b1 k1⟩, fun z d H1 sm hd => bad z d H1 ((same_two nx ndx).trans sm) hd⟩
    walk_at "rd"
    obtain rfl : n = 7 := by omega
    intro x dx nx ndx nxd
    exact ⟨x, dx, v, t, rfl, od.same (same_two nx ndx), upd_same, fun b eb hb H1 b1 k1 => ⟨rfl, fin b x dx H1 eb hb nx ndx nxd b1 k1⟩, fun z d H1 sm hd => bad z d H1 ((same_two nx ndx).trans sm) hd⟩
theorem ok_mkbit {f cR : Addr} {fd : FuncData} {cl : Nat → Addr} (F : Fun K "_law_bit" "_law_bit" s__law_bit f fd) (FM : ∀ i : Fin 16, Fam P w K mg base cl cR i.val) (c__law_plain_bit : KB.Callee P w K mg base (L2.CX P w) 6 "_law_plain_bit" ["_law_number", "_law_begin"] (spMkBit cl cR 8)) : FnOk P w K mg base (L2.CX P w) 7 f fd ["_law_number", "_law_begin"] (spMkBit cl cR 16) := by
  refine F.okX sc__law_bit (fun vs H Q E h => ?_) (fun cdv A outer s H vs Q E hr h => ?_)
  · obtain ⟨n, v, t, rfl, _⟩ := h
    rfl
  · obtain ⟨n, v, t, rfl, hn, od, q, bad⟩ := h
    have c_RaisedBit___init__ : CalleeI P w K mg base (L2.CX P w) 4 (cl 8) "RaisedBit" ["self", "value"] (spInit (cl 8) cR) := (FM ⟨8, by decide⟩).m_make
    have c_EndedBit___init__ : CalleeI P w K mg base (L2.CX P w) 4 (cl 9) "EndedBit" ["self", "value"] (spInit (cl 9) cR) := (FM ⟨9, by decide⟩).m_make
    have c_DriftingBit___init__ : CalleeI P w K mg base (L2.CX P w) 4 (cl 10) "DriftingBit" ["self", "value"] (spInit (cl 10) cR) := (FM ⟨10, by decide⟩).m_make
    have c_EventBit___init__ : CalleeI P w K mg base (L2.CX P w) 4 (cl 11) "EventBit" ["self", "value"] (spInit (cl 11) cR) := (FM ⟨11, by decide⟩).m_make
    have c_TakenEventBit___init__ : CalleeI P w K mg base (L2.CX P w) 4 (cl 12) "TakenEventBit" ["self", "value"] (spInit (cl 12) cR) := (FM ⟨12, by decide⟩).m_make
    have c_StartBit___init__ : CalleeI P w K mg base (L2.CX P w) 4 (cl 13) "StartBit" ["self", "value"] (spInit (cl 13) cR) := (FM ⟨13, by decide⟩).m_make
    have c_GaugeBit___init__ : CalleeI P w K mg base (L2.CX P w) 4 (cl 14) "GaugeBit" ["self", "value"] (spInit (cl 14) cR) := (FM ⟨14, by decide⟩).m_make
    have c_SealedBit___init__ : CalleeI P w K mg base (L2.CX P w) 4 (cl 15) "SealedBit" ["self", "value"] (spInit (cl 15) cR) := (FM ⟨15, by decide⟩).m_make
    refine ⟨_, (pss_cons (ps_if (pt_cmpR op_lt (pv 0) pe_int (nomark _)) (pss_one (ps_ret (pe_callC c__law_plain_bit (hr.mono (by decide)) (by rfl) (passes_call KL.def_takes fun _ _ _ _ h => h) (pa_cons (pv 0) (pa_cons (pv 1) pa_nil)))))
 pss_nil)
 (pss_cons (ps_if (pt_cmpR op_eq (pv 0) pe_int (nomark _)) (pss_one (ps_ret (pe_makeC c_RaisedBit___init__ (hr.mono (by decide)) (by rfl) (passes_call KL.def_takes fun _ _ _ _ h => h) (pa_cons (pv 1) pa_nil))))
 pss_nil)
 (pss_cons (ps_if (pt_cmpR op_eq (pv 0) pe_int (nomark _)) (pss_one (ps_ret (pe_makeC c_EndedBit___init__ (hr.mono (by decide)) (by rfl) (passes_call KL.def_takes fun _ _ _ _ h => h) (pa_cons (pv 1) pa_nil))))
 pss_nil)
 (pss_cons (ps_if (pt_cmpR op_eq (pv 0) pe_int (nomark _)) (pss_one (ps_ret (pe_makeC c_DriftingBit___init__ (hr.mono (by decide)) (by rfl) (passes_call KL.def_takes fun _ _ _ _ h => h) (pa_cons (pv 1) pa_nil))))
 pss_nil)
 (pss_cons (ps_if (pt_cmpR op_eq (pv 0) pe_int (nomark _)) (pss_one (ps_ret (pe_makeC c_EventBit___init__ (hr.mono (by decide)) (by rfl) (passes_call KL.def_takes fun _ _ _ _ h => h) (pa_cons (pv 1) pa_nil))))
 pss_nil)
 (pss_cons (ps_if (pt_cmpR op_eq (pv 0) pe_int (nomark _)) (pss_one (ps_ret (pe_makeC c_TakenEventBit___init__ (hr.mono (by decide)) (by rfl) (passes_call KL.def_takes fun _ _ _ _ h => h) (pa_cons (pv 1) pa_nil))))
 pss_nil)
 (pss_cons (ps_if (pt_cmpR op_eq (pv 0) pe_int (nomark _)) (pss_one (ps_ret (pe_makeC c_StartBit___init__ (hr.mono (by decide)) (by rfl) (passes_call KL.def_takes fun _ _ _ _ h => h) (pa_cons (pv 1) pa_nil))))
 pss_nil)
 (pss_cons (ps_if (pt_cmpR op_eq (pv 0) pe_int (nomark _)) (pss_one (ps_ret (pe_makeC c_GaugeBit___init__ (hr.mono (by decide)) (by rfl) (passes_call KL.def_takes fun _ _ _ _ h => h) (pa_cons (pv 1) pa_nil))))
 pss_nil)
 (pss_one (ps_ret (pe_makeC c_SealedBit___init__ (hr.mono (by decide)) (by rfl) (passes_call KL.def_takes fun _ _ _ _ h => h) (pa_cons (pv 1) pa_nil)))))))))))), at_start (σ := [some (.int n), some v]) rfl ?_⟩
    try dsimp only [KC.cx_KX]
    have fin : ∀ (b : Int) (x dx : Addr) (H1 : Hp), t = .sc (.int b) → (b = 0 ∨ b = 1) → H x = none → H dx = none → dx ≠ x → BitAt (cl n) H1 x b → Keep x (upd (upd H dx (.own x)) x (.ins (cl n) dx [])) H1 → Q (.ref x) H1 := fun b x dx H1 eb hb nx ndx nxd b1 k1 =>
      q b eb hb _ x nx (fun c o e => k1 _ _ (same_two nx ndx _ _ e) (ne_of_none e nx)) b1
    walk_at "rd"
    refine r_ite2 (fun h => ?_) (fun h => ?_)
    · walk_at "rd"
      exact ⟨n, v, t, rfl, by omega, od, q, bad⟩
    walk_at "rd"
    refine r_iteI2 (fun h => ?_) (fun h => ?_)
    · obtain rfl : n = 8 := by omega
      walk_at "rd"
      intro x dx nx ndx nxd
      exact ⟨x, dx, v, t, rfl, od.same (same_two nx ndx), upd_same, fun b eb hb H1 b1 k1 => ⟨rfl, fin b x dx H1 eb hb nx ndx nxd b1 k1⟩, fun z d H1 sm hd => bad z d H1 ((same_two nx ndx).trans sm) hd⟩
    walk_at "rd"
    refine r_iteI2 (fun h => ?_) (fun h => ?_)
    · obtain rfl : n = 9 := by omega
      walk_at "rd"
      intro x dx nx ndx nxd
      exact ⟨x, dx, v, t, rfl, od.same (same_two nx ndx), upd_same, fun b eb hb H1 b1 k1 => ⟨rfl, fin b x dx H1 eb hb nx ndx nxd b1 k1⟩, fun z d H1 sm hd => bad z d H1 ((same_two nx ndx).trans sm) hd⟩
    walk_at "rd"
    refine r_iteI2 (fun h => ?_) (fun h => ?_)
    · obtain rfl : n = 10 := by omega
      walk_at "rd"
      intro x dx nx ndx nxd
      exact ⟨x, dx, v, t, rfl, od.same (same_two nx ndx), upd_same, fun b eb hb H1 b1 k1 => ⟨rfl, fin b x dx H1 eb hb nx ndx nxd b1 k1⟩, fun z d H1 sm hd => bad z d H1 ((same_two nx ndx).trans sm) hd⟩
    walk_at "rd"
    refine r_iteI2 (fun h => ?_) (fun h => ?_)
    · obtain rfl : n = 11 := by omega
      walk_at "rd"
      intro x dx nx ndx nxd
      exact ⟨x, dx, v, t, rfl, od.same (same_two nx ndx), upd_same, fun b eb hb H1 b1 k1 => ⟨rfl, fin b x dx H1 eb hb nx ndx nxd b1 k1⟩, fun z d H1 sm hd => bad z d H1 ((same_two nx ndx).trans sm) hd⟩
    walk_at "rd"
    refine r_iteI2 (fun h => ?_) (fun h => ?_)
    · obtain rfl : n = 12 := by omega
      walk_at "rd"
      intro x dx nx ndx nxd
      exact ⟨x, dx, v, t, rfl, od.same (same_two nx ndx), upd_same, fun b eb hb H1 b1 k1 => ⟨rfl, fin b x dx H1 eb hb nx ndx nxd b1 k1⟩, fun z d H1 sm hd => bad z d H1 ((same_two nx ndx).trans sm) hd⟩
    walk_at "rd"
    refine r_iteI2 (fun h => ?_) (fun h => ?_)
    · obtain rfl : n = 13 := by omega
      walk_at "rd"
      intro x dx nx ndx nxd
      exact ⟨x, dx, v, t, rfl, od.same (same_two nx ndx), upd_same, fun b eb hb H1 b1 k1 => ⟨rfl, fin b x dx H1 eb hb nx ndx nxd b1 k1⟩, fun z d H1 sm hd => bad z d H1 ((same_two nx ndx).trans sm) hd⟩
    walk_at "rd"
    refine r_iteI2 (fun h => ?_) (fun h => ?_)
    · obtain rfl : n = 14 := by omega
      walk_at "rd"
      intro x dx nx ndx nxd
      exact ⟨x, dx, v, t, rfl, od.same (same_two nx ndx), upd_same, fun b eb hb H1 b1 k1 => ⟨rfl, fin b x dx H1 eb hb nx ndx nxd b1 k1⟩, fun z d H1 sm hd => bad z d H1 ((same_two nx ndx).trans sm) hd⟩
    walk_at "rd"
    obtain rfl : n = 15 := by omega
    intro x dx nx ndx nxd
    exact ⟨x, dx, v, t, rfl, od.same (same_two nx ndx), upd_same, fun b eb hb H1 b1 k1 => ⟨rfl, fin b x dx H1 eb hb nx ndx nxd b1 k1⟩, fun z d H1 sm hd => bad z d H1 ((same_two nx ndx).trans sm) hd⟩
end
end K10


namespace K10
open PySem L2 KB KO KV KY KR
/-- where a promise leaves no refusal, the def raises nothing -/
theorem calm_of {P : Program} {w : World} {K : PySem.W.Frag} {mg : Str → Option Value} {base : Heap} {k : Nat} {f : Addr} {fd : FuncData} {ps : List Str} {sp sp0 : Sp} (F : FnOk P w K mg base (L2.CX P w) k f fd ps sp) (h : ∀ vs H Q E, sp0 vs H Q E → sp vs H Q fun _ _ _ => False) : FnOk P w K mg base CX0 k f fd ps sp0 :=
  ⟨fun vs H Q E q => F.len _ _ _ _ (h _ _ _ _ q), fun A outer s H args us vs Q E hr he hb hv q => codeAny_mono (F.run A outer s H args us vs Q (fun _ _ _ => False) hr he hb hv (h _ _ _ _ q)) fun res st z => by
    match res, z with
    | .error e, z =>
      obtain ⟨_, _, _, _, _, _, _, _, _, _, _, _, x⟩ := z
      exact x.elim
    | .ok fl, z => cases fl <;> exact z⟩
theorem wr_calm {P : Program} {w : World} {K : PySem.W.Frag} {mg : Str → Option Value} {base : Heap} {k : Nat} {g C cR : Addr} {fd : FuncData} {ps : List Str} {f : Int → Int → Int} (F : FnOk P w K mg base (L2.CX P w) k g fd ps (spWr C cR f)) : FnOk P w K mg base CX0 k g fd ps (spWr0 C f) := by
  refine calm_of F fun vs H Q E h => ?_
  obtain ⟨a, s, b, rfl, hb, ba, q⟩ := h
  refine ⟨a, s, .int b, .sc (.int b), rfl, rfl, ba, fun b' eb _ H' b1 k1 => ?_, fun z => ?_⟩
  · cases eb
    exact q H' b1 k1
  · have : isBit (.sc (.int b)) = true := decide_eq_true hb
    rw [this] at z
    cases z
end K10


namespace K10
open PySem L2 KB KO KV KY KR
/-- a value that no bit takes, and that can be told -/
structure OddT (t : Dt) : Prop where
  bad : isBit t = false
  fit : Fit "word" t
  rep : (reprText (pairD "word" t).shown).length ≤ 400
  tw : PyData.strOk (pairD "word" t).shown = true
def oddB (t : Dt) : Bool := !isBit t && PyData.showable t.d && decide ((pairD "word" t).depth ≤ 60) && decide ((pairD "word" t).shown.length ≤ sizeLine) && decide ((reprText (pairD "word" t).shown).length ≤ 400) && PyData.strOk (pairD "word" t).shown
theorem odd_t {t : Dt} (h : oddB t = true) : OddT t := by
  unfold oddB at h
  simp only [Bool.and_eq_true, Bool.not_eq_true', decide_eq_true_eq] at h
  exact ⟨h.1.1.1.1.1, ⟨h.1.1.1.1.2, h.1.1.1.2, h.1.1.2⟩, h.1.2, h.2⟩
def OdOk (pen : Addr) (v : V) (H : Hp) : Prop := v ≠ .ref pen ∧ ∃ t, OdAt H v t ∧ OddT t
theorem OdOk.keep {pen : Addr} {v : V} {H H' : Hp} (h : OdOk pen v H) (k : Keep pen H H') : OdOk pen v H' := by
  obtain ⟨n, t, o, f⟩ := h
  exact ⟨n, t, o.to fun a ob e g => k a ob g (fun z => n (by rw [e, z])), f⟩
def OddsAt (pen : Addr) (xs : List V) (H : Hp) : Prop := ∀ v ∈ xs, OdOk pen v H
theorem OddsAt.keep {pen : Addr} {xs : List V} {H H' : Hp} (h : OddsAt pen xs H) (k : Keep pen H H') : OddsAt pen xs H' := fun v m => (h v m).keep k
theorem OddsAt.cons {pen : Addr} {v : V} {ys : List V} {H : Hp} (h : OdOk pen v H) (h' : OddsAt pen ys H) : OddsAt pen (v :: ys) H := fun z m => by
  rcases List.mem_cons.mp m with rfl | m
  · exact h
  · exact h' z m
theorem OddsAt.nil {pen : Addr} {H : Hp} : OddsAt pen [] H := fun z m => absurd m List.not_mem_nil
theorem odd_sc {pen : Addr} {H : Hp} (s : Sc) (h : oddB (.sc s) = true) : OdOk pen s.v H := ⟨(fun z => by cases s <;> cases z), .sc s, rfl, odd_t h⟩
theorem some_ints : ∀ r : Nat, r < 99 → oddB (.sc (.int (3 + (r : Int)))) = true := by decide +kernel
def spOdd : Sp := fun vs H Q _ => ∃ (pen c : Addr) (k : Nat), vs = [.ref pen] ∧ PenC H pen c (k + 2) ∧ ∀ v H', OdOk pen v H' → PenC H' pen c k → Keep pen H H' → Q v H'

section
variable {P : Program} {w : World} {K : PySem.W.Frag} {mg : Str → Option Value} {base : Heap}
theorem ok_odd {f : Addr} {fd : FuncData} (F : Fun K "_law_odd" "_law_odd" s__law_odd f fd) (T : Txt mg) (c__law_draw : KB.Callee P w K mg base CX0 1 "_law_draw" ["_law_pen_here", "_law_many"] spDraw) : FnOk P w K mg base CX0 2 f fd ["_law_pen_here"] spOdd := by
  refine F.ok sc__law_odd (fun vs H Q E h => ?_) (fun cdv A outer s H vs Q E hr h => ?_)
  · obtain ⟨pen, c, k, rfl, _⟩ := h
    rfl
  · obtain ⟨pen, c, k, rfl, pn, q⟩ := h
    refine ⟨_, (pss_cons (ps_set (i := 1) sc__law_odd.nd rfl (by first | exact Or.inl rfl | exact Or.inr rfl) (pe_lst (pa_cons pe_non (pa_cons pe_bl (pa_cons pe_bl (pa_cons pe_int (pa_cons (pe_un un_neg pe_int) (pa_cons pe_str (pa_cons pe_str (pa_cons pe_str (pa_cons (pe_tup pa_nil) (pa_cons (pe_tup (pa_cons pe_int pa_nil)) (pa_cons (pe_lst (pa_cons pe_int pa_nil)) (pa_cons pe_dnewK (pa_cons (pe_op op_pow pe_int pe_int) (pa_cons (pe_op op_sub pe_int (pe_op op_pow pe_int pe_int)) (pa_cons (pe_op op_add pe_int (pe_callC c__law_draw (hr.mono (by decide)) (by rfl) pass0 (pa_cons (pv 0) (pa_cons pe_int pa_nil)))) pa_nil)))))))))))))))))
 (pss_one (ps_ret (pe_ix ix_list (pv 1) (pe_callC c__law_draw (hr.mono (by decide)) (by rfl) pass0 (pa_cons (pv 0) (pa_cons pe_int pa_nil))) (fun _ _ => rfl))))), at_start (σ := [some (.ref pen), none]) rfl ?_⟩
    try dsimp only [cx_K]
    walk_at "rd"
    refine ⟨by walk_at "sz", fun c1 n1 => ?_⟩
    walk_at "rd"
    refine ⟨by walk_at "sz", fun c2 n2 => ?_⟩
    walk_at "rd"
    refine ⟨by walk_at "sz", fun c3 n3 => ?_⟩
    walk_at "rd"
    intro c4 n4
    walk_at "rd"
    generalize hH5 : upd (upd (upd (upd H c1 _) c2 _) c3 _) c4 _ = H5
    have s5 : Same H H5 := hH5 ▸ (((same_new n1).trans (same_new n2)).trans (same_new n3)).trans (same_new n4)
    have g1 : H5 c1 = some (.tup []) := by rw [← hH5]; walk_at "hp"
    have g2 : H5 c2 = some (.tup [.int 1]) := by rw [← hH5]; walk_at "hp"
    have g3 : H5 c3 = some (.lst [.int 0]) := by rw [← hH5]; walk_at "hp"
    have g4 : H5 c4 = some (.dK []) := by rw [← hH5]; walk_at "hp"
    have p1 : c1 ≠ pen := pn.ne n1
    have p2 : c2 ≠ pen := (pn.up (same_new n1)).ne n2
    have p3 : c3 ≠ pen := ((pn.up (same_new n1)).up (same_new n2)).ne n3
    have p4 : c4 ≠ pen := (((pn.up (same_new n1)).up (same_new n2)).up (same_new n3)).ne n4
    have pn5 := pn.up s5
    clear hH5 n1 n2 n3 n4
    refine ⟨pen, c, 99, k + 1, rfl, by decide, by decide, pn5, fun r1 H6 a1 b1 pn6 kp6 => ?_⟩
    obtain ⟨r, rfl⟩ : ∃ r : Nat, r1 = (r : Int) := ⟨r1.toNat, by omega⟩
    replace g1 := kp6 _ _ g1 p1
    replace g2 := kp6 _ _ g2 p2
    replace g3 := kp6 _ _ g3 p3
    replace g4 := kp6 _ _ g4 p4
    have o6 : OddsAt pen [.non, .bl true, .bl false, .int 2, .int (-1), .str "0", .str "1", .str "", .ref c1, .ref c2, .ref c3, .ref c4, .int (10 ^ 59), .int (0 - 10 ^ 59), .int (3 + (r : Int))] H6 :=
      .cons (odd_sc .non (by decide +kernel)) (.cons (odd_sc (.bl true) (by decide +kernel)) (.cons (odd_sc (.bl false) (by decide +kernel)) (.cons (odd_sc (.int 2) (by decide +kernel)) (.cons (odd_sc (.int (-1)) (by decide +kernel))
        (.cons (odd_sc (.str "0") (by decide +kernel)) (.cons (odd_sc (.str "1") (by decide +kernel)) (.cons (odd_sc (.str "") (by decide +kernel))
        (.cons ⟨(fun z => p1 (by cases z; rfl)), .tup [], ⟨c1, rfl, g1⟩, odd_t (by decide +kernel)⟩
        (.cons ⟨(fun z => p2 (by cases z; rfl)), .tup [.int 1], ⟨c2, rfl, g2⟩, odd_t (by decide +kernel)⟩
        (.cons ⟨(fun z => p3 (by cases z; rfl)), .lst [.int 0], ⟨c3, rfl, g3⟩, odd_t (by decide +kernel)⟩
        (.cons ⟨(fun z => p4 (by cases z; rfl)), .dct [], ⟨c4, rfl, g4⟩, odd_t (by decide +kernel)⟩
        (.cons (odd_sc (.int (10 ^ 59)) (by decide +kernel)) (.cons (odd_sc (.int (0 - 10 ^ 59)) (by decide +kernel)) (.cons (odd_sc (.int (3 + (r : Int))) (some_ints r (by omega))) .nil))))))))))))))
    walk_at "rd"
    refine ⟨by walk_at "sz", fun c5 n5 => ?_⟩
    have pn7 := pn6.up (same_new (o := .lst [.non, .bl true, .bl false, .int 2, .int (-1), .str "0", .str "1", .str "", .ref c1, .ref c2, .ref c3, .ref c4, .int (10 ^ 59), .int (0 - 10 ^ 59), .int (3 + (r : Int))]) n5)
    have p5 := pn6.ne n5
    walk_at "rd"
    refine ⟨pen, c, 15, k, rfl, by decide, by decide, pn7, fun r2 H8 a2 b2 pn8 kp8 => ?_⟩
    obtain ⟨v, mv, at2⟩ := atI_mem (xs := ([V.non, .bl true, .bl false, .int 2, .int (-1), .str "0", .str "1", .str "", .ref c1, .ref c2, .ref c3, .ref c4, .int (10 ^ 59), .int (0 - 10 ^ 59), .int (3 + (r : Int))] : List V)) a2 b2
    refine r_ixL (SqL.of (kp8 _ _ upd_same p5)) at2 ?_
    walk_at "rd"
    have kk := (Keep.same (same_new (o := .lst [.non, .bl true, .bl false, .int 2, .int (-1), .str "0", .str "1", .str "", .ref c1, .ref c2, .ref c3, .ref c4, .int (10 ^ 59), .int (0 - 10 ^ 59), .int (3 + (r : Int))]) n5)).tr kp8
    exact q v H8 ((o6.keep kk) v mv) pn8 (((Keep.same s5).tr kp6).tr kk)
end
end K10


namespace K10
open PySem L2 KB KO KV KY KR
/-! ### _law_heard -/
structure TxtE (K : PySem.W.Frag) (mg : Str → Option Value) (CB : Addr) (c : Nat → Addr) : Prop extends Txt mg where
  mg_BitError : mg "BitError" = some (.ref CB)
  mg_InvalidWidth : mg "InvalidWidth" = some (.ref (c 0))
  mg_InvalidLane : mg "InvalidLane" = some (.ref (c 1))
  mg_InvalidWord : mg "InvalidWord" = some (.ref (c 2))
  mg_InvalidShift : mg "InvalidShift" = some (.ref (c 3))
  mg_InvalidKind : mg "InvalidKind" = some (.ref (c 4))
  mg_InvalidLetters : mg "InvalidLetters" = some (.ref (c 5))
def errNames : List Str := ["width", "lane", "word", "shift", "kind"]
def errName (i : Nat) : Str := errNames.getD i ""
structure ErrAt (K : PySem.W.Frag) (CB : Addr) (c : Nat → Addr) (i : Nat) : Prop where
  lt : i < 5
  bit : PySem.W.exmOne K (.ref (c i)) (.ref CB) = some true
  exc : ExcC K (c i)
  xf : XfC K (c i)
  nof : PySem.W.findIn K (.ref (c i)) "value" = some none
  kit : ∀ j, j < 6 → PySem.W.kitOne K (.ref (c i)) (.ref (c j)) = some (decide (i = j))
  ve : PySem.W.kitOne K (.ref (c i)) (.type "ValueError") = some true
def echo (K : PySem.W.Frag) (CB : Addr) (c : Nat → Addr) (Q : VK) : XK := fun cls d H' => ∃ (i : Nat) (dd : Addr) (v : V) (t : Dt), ErrAt K CB c i ∧ cls = .ref (c i) ∧ d = some dd ∧ H' dd = some (.xd [("value", v)]) ∧ OdAt H' v t ∧ Fit (errName i) t ∧ ∀ H2, Same H' H2 → Q (.str (pairD (errName i) t).shown) H2
def TH (K : PySem.W.Frag) (CB : Addr) (c : Nat → Addr) : (XK → Hp → VK → Prop) → Hp → VK → Prop := fun tl H Q =>
  tl (echo K CB c Q) H (fun v H1 => ([V.str "told", v] : List V).length ≤ sizeLine ∧ ∀ p, H1 p = none → rReprT [.ref p] (upd H1 p (.lst [.str "told", v])) Q)
theorem marks_one {i : Nat} (h : i < 5) : ([decide (i = 0), decide (i = 1), decide (i = 2), decide (i = 3), decide (i = 4), decide (i = 5)] : List Bool).count true = 1 := by
  match i, h with
  | 0, _ => decide
  | 1, _ => decide
  | 2, _ => decide
  | 3, _ => decide
  | 4, _ => decide
  | i + 5, h => exact absurd h (by omega)
theorem marks_ix {i : Nat} (h : i < 5) : ∃ z, ([.bl (decide (i = 0)), .bl (decide (i = 1)), .bl (decide (i = 2)), .bl (decide (i = 3)), .bl (decide (i = 4)), .bl (decide (i = 5))] : List V)[i]? = some z ∧ eqV z (.bl true) = true ∧
    ∀ (m : Nat) (z' : V), m < i → ([.bl (decide (i = 0)), .bl (decide (i = 1)), .bl (decide (i = 2)), .bl (decide (i = 3)), .bl (decide (i = 4)), .bl (decide (i = 5))] : List V)[m]? = some z' → eqV z' (.bl true) = false := by
  match i, h with
  | 0, _ => exact ⟨_, rfl, rfl, fun m z' hm e => absurd hm (by omega)⟩
  | 1, _ => exact ⟨_, rfl, rfl, fun m z' hm e => by match m, hm, e with | 0, _, e => cases e; rfl⟩
  | 2, _ => exact ⟨_, rfl, rfl, fun m z' hm e => by match m, hm, e with | 0, _, e => (cases e; rfl) | 1, _, e => (cases e; rfl)⟩
  | 3, _ => exact ⟨_, rfl, rfl, fun m z' hm e => by match m, hm, e with | 0, _, e => (cases e; rfl) | 1, _, e => (cases e; rfl) | 2, _, e => (cases e; rfl)⟩
  | 4, _ => exact ⟨_, rfl, rfl, fun m z' hm e => by match m, hm, e with | 0, _, e => (cases e; rfl) | 1, _, e => (cases e; rfl) | 2, _, e => (cases e; rfl) | 3, _, e => (cases e; rfl)⟩
  | i + 5, h => exact absurd h (by omega)
theorem name_at {i : Nat} (h : i < 5) : atI (errNames.map V.str) (i : Int) = some (.str (errName i)) := by
  match i, h with
  | 0, _ => rfl
  | 1, _ => rfl
  | 2, _ => rfl
  | 3, _ => rfl
  | 4, _ => rfl
  | i + 5, h => exact absurd h (by omega)
abbrev hX (X : Cx) (g : Addr) (cdg : Value) (s : Shared) (H : Hp) : Cx := cxOf C8.CX0 X.prog X.w X.K X.mg X.base ["_law_ask", "_law_caught", "error", "_law_marks"] "_law_heard" (defScope s__law_heard) g cdg X.A X.stack s H C8.E0


open LamX in
theorem heard_gives {X : Cx} {CB g : Addr} {c : Nat → Addr} {k : Nat} {cdg : Value} {q : Str} (T : TxtE X.K X.mg CB c) (fr0 : KG.Free X.A) (room : Room (k + 1) X.A) :
    GivesTo X ["_law_ask", "_law_caught", "error", "_law_marks"] "_law_heard" (defScope s__law_heard) g cdg (defBody s__law_heard) "_law_ask" q (TH X.K CB c) := by
  intro f c' s H Q tl act hc h
  have hr : Room k (hX X g cdg s H).A := room.deeper _
  have fr : KG.Free (hX X g cdg s H).A := fr0
  refine ⟨_, pss_cons (ps_set (i := 1) sc__law_heard.nd rfl (by first | exact Or.inl rfl | exact Or.inr rfl) pe_non)
    (pss_cons (KX.ps_try_keep (X := (hX X g cdg s H).nox) (c := .ref CB) (i := 2)
      (tb := fun W D σ H => ∃ Ech : XK, (∀ cls d σ' H', σ'.length = 4 → Ech cls d H' → W cls d σ' H') ∧ σ[0]? = some (some (.ref f)) ∧ H c' = some (CodeO c' q) ∧ tl Ech H (fun v H1 => ([V.str "told", v] : List V).length ≤ sizeLine ∧ ∀ p, H1 p = none → rReprT [.ref p] (upd H1 p (.lst [.str "told", v])) D.rt))
      rfl rfl sc__law_heard.nd rfl rfl ⟨rfl, by decide, .inl T.mg_BitError⟩ L2.takes0 rfl (fun W pn xe tk _ => ?_) (fun a oe cls d pn _ _ => pss_one (ps_set (i := 1) sc__law_heard.nd rfl (by first | exact Or.inl rfl | exact Or.inr rfl) (pv 2))))
    (pss_cons (ps_set (i := 3) sc__law_heard.nd rfl (by first | exact Or.inl rfl | exact Or.inr rfl) (pe_lst (pa_cons (pe_callB KX.call_isH (by rfl) T.z_isinstance (by decide +kernel) (pa_cons (pv 1) (pa_cons (pe_glob (v := .ref _) (by rfl) T.mg_InvalidWidth rfl) pa_nil))) (pa_cons (pe_callB KX.call_isH (by rfl) T.z_isinstance (by decide +kernel) (pa_cons (pv 1) (pa_cons (pe_glob (v := .ref _) (by rfl) T.mg_InvalidLane rfl) pa_nil))) (pa_cons (pe_callB KX.call_isH (by rfl) T.z_isinstance (by decide +kernel) (pa_cons (pv 1) (pa_cons (pe_glob (v := .ref _) (by rfl) T.mg_InvalidWord rfl) pa_nil))) pa_nil)))))
 (pss_cons (ps_set (i := 3) sc__law_heard.nd rfl (by first | exact Or.inl rfl | exact Or.inr rfl) (pe_op op_cat (pv 3) (pe_lst (pa_cons (pe_callB KX.call_isH (by rfl) T.z_isinstance (by decide +kernel) (pa_cons (pv 1) (pa_cons (pe_glob (v := .ref _) (by rfl) T.mg_InvalidShift rfl) pa_nil))) (pa_cons (pe_callB KX.call_isH (by rfl) T.z_isinstance (by decide +kernel) (pa_cons (pv 1) (pa_cons (pe_glob (v := .ref _) (by rfl) T.mg_InvalidKind rfl) pa_nil))) pa_nil)))))
 (pss_cons (ps_expr (pe_bm PySem.F.plainAttrs_list PySem.F.slot_list_append PySem.F.type_list_append mt_append (pv 3) (pa_cons (pe_callB KX.call_isH (by rfl) T.z_isinstance (by decide +kernel) (pa_cons (pv 1) (pa_cons (pe_glob (v := .ref _) (by rfl) T.mg_InvalidLetters rfl) pa_nil))) pa_nil)))
 (pss_cons (ps_if (PW.pt (pw_or (pt_cmpR op_ne (pe_bm PySem.F.plainAttrs_list PySem.F.slot_list_count PySem.F.type_list_count KY.mt_countB (pv 3) (pa_cons pe_bl pa_nil)) pe_int (nomark _)) (pw_or1 (pt_not (pt_val (pe_callB KX.call_isH (by rfl) T.z_isinstance (by decide +kernel) (pa_cons (pv 1) (pa_cons (pe_bltn (v := .ty "ValueError") (by rfl) T.z_ValueError (by decide +kernel) rfl) pa_nil)))))))) (pss_one (ps_ret pe_str))
 pss_nil)
 (pss_cons (ps_if (pt_val (pe_ix ix_list (pv 3) pe_int (fun _ _ => rfl))) (pss_one (ps_ret (pe_callB (KY.call_reprT fr hr) (by rfl) T.z_repr (by decide +kernel) (pa_cons (pe_lst (pa_cons pe_str (pa_cons (KX.pe_xh (pv 1)) pa_nil))) pa_nil))))
 pss_nil)
 (pss_one (ps_ret (pe_callB (KY.call_reprT fr hr) (by rfl) T.z_repr (by decide +kernel) (pa_cons (pe_lst (pa_cons (pe_ix ix_list (pe_lst (pa_cons pe_str (pa_cons pe_str (pa_cons pe_str (pa_cons pe_str (pa_cons pe_str pa_nil)))))) (pe_bm PySem.F.plainAttrs_list PySem.F.slot_list_index PySem.F.type_list_index mt_index (pv 3) (pa_cons pe_bl pa_nil)) (fun _ _ => rfl)) (pa_cons (KX.pe_xh (pv 1)) pa_nil))) pa_nil)))))))))), ?_⟩
  · refine ⟨fun pins s' σ H' D I h' => ?_⟩
    obtain ⟨Ech, hW, h1, h2, h3⟩ := h'
    exact PSs.run (X := (hX X g cdg s H).tr pn xe) (pss_one (ps_ret (pe_callB (KY.call_reprT (X := (hX X g cdg s H).tr pn xe) fr hr) (by rfl) T.z_repr (by decide +kernel) (pa_cons (pe_lst (pa_cons pe_str (pa_cons (act (fun cls d σ H => σ.length = 4 → W cls d σ H) pn xe Ech _ _ (KL.takes_len tk) (fun cls d σ' H' e hl => hW cls d σ' H' hl e)) pa_nil))) pa_nil)))) pins s' σ H' D I ⟨h1, h2, h3⟩
  · refine at_start (σ := [some (.ref f), none, none, none]) rfl ?_
    walk_at "rd"
    have eK : (hX X g cdg s H).K = X.K := rfl
    have eK2 : (hX X g cdg s H).nox.K = X.K := rfl
    simp only [eK, eK2]
    refine ⟨echo X.K CB c Q, fun cls d σ' H' hl he => ?_, rfl, hc, h⟩
    obtain ⟨i, dd, v, t, ea, rfl, rfl, hd, od, fit, z⟩ := he
    refine ⟨true, ea.bit, fun _ a na => ?_, fun z => by cases z⟩
    obtain ⟨x0, x1, x2, x3, rfl⟩ : ∃ x0 x1 x2 x3, σ' = [x0, x1, x2, x3] := by
      match σ', hl with
      | [x0, x1, x2, x3], _ => exact ⟨_, _, _, _, rfl⟩
    have g1 : upd H' a (KX.exh a (.ref (c i)) (some dd)) a = some (KX.exh a (.ref (c i)) (some dd)) := upd_same
    have g2 : upd H' a (KX.exh a (.ref (c i)) (some dd)) dd = some (.xd [("value", v)]) := upd_new na hd
    have sa : Same H' (upd H' a (KX.exh a (.ref (c i)) (some dd))) := same_new na
    walk_at "rd"
    generalize upd H' a (KX.exh a (.ref (c i)) (some dd)) = H1 at g1 g2 sa ⊢
    refine ⟨a, c i, dd, _, _, _, _, rfl, g1, g2, ea.exc, .own _, ea.kit 0 (by decide), ?_⟩
    walk_at "rd"
    refine ⟨a, c i, dd, _, _, _, _, rfl, g1, g2, ea.exc, .own _, ea.kit 1 (by decide), ?_⟩
    walk_at "rd"
    refine ⟨a, c i, dd, _, _, _, _, rfl, g1, g2, ea.exc, .own _, ea.kit 2 (by decide), ?_⟩
    walk_at "rd"
    refine ⟨by walk_at "sz", fun c1 n1 => ?_⟩
    walk_at "rd"
    refine ⟨a, c i, dd, _, _, _, _, rfl, upd_new n1 g1, upd_new n1 g2, ea.exc, .own _, ea.kit 3 (by decide), ?_⟩
    walk_at "rd"
    refine ⟨a, c i, dd, _, _, _, _, rfl, upd_new n1 g1, upd_new n1 g2, ea.exc, .own _, ea.kit 4 (by decide), ?_⟩
    walk_at "rd"
    refine ⟨by walk_at "sz", fun c2 n2 => ?_⟩
    refine r_cat (upd_new n2 upd_same) upd_same (by walk_at "sz") fun c3 n3 => ?_
    dsimp only [List.cons_append, List.nil_append]
    generalize hH3 : upd (upd (upd H1 c1 _) c2 _) c3 _ = H3
    have s3 : Same H1 H3 := hH3 ▸ (((same_new n1).trans (same_new n2)).trans (same_new n3))
    have g3 : H3 c3 = some (.lst [.bl (decide (i = 0)), .bl (decide (i = 1)), .bl (decide (i = 2)), .bl (decide (i = 3)), .bl (decide (i = 4))]) := by rw [← hH3]; walk_at "hp"
    have f3 : H1 c3 = none := by
      cases e : H1 c3 with
      | none => rfl
      | some o => rw [upd_new n2 (upd_new n1 e)] at n3; cases n3
    clear hH3 n1 n2 n3
    walk_at "rd"
    refine ⟨a, c i, dd, _, _, _, _, rfl, s3 _ _ g1, s3 _ _ g2, ea.exc, .own _, ea.kit 5 (by decide), ?_⟩
    walk_at "rd"
    refine r_append g3 (by walk_at "sz") ?_
    dsimp only [List.cons_append, List.nil_append]
    generalize hH4 : upd H3 c3 _ = H4
    have s4 : Same H1 H4 := hH4 ▸ same_mut s3 f3
    have g4 : H4 c3 = some (.lst [.bl (decide (i = 0)), .bl (decide (i = 1)), .bl (decide (i = 2)), .bl (decide (i = 3)), .bl (decide (i = 4)), .bl (decide (i = 5))]) := by rw [← hH4]; exact upd_same
    clear hH4 g3 s3
    have n5 : decide (i = 5) = false := decide_eq_false (by have := ea.lt; omega)
    walk_at "rd"
    refine ⟨c3, [decide (i = 0), decide (i = 1), decide (i = 2), decide (i = 3), decide (i = 4), decide (i = 5)], true, rfl, rfl, SqL.of g4, ?_⟩
    rw [marks_one ea.lt]
    walk_at "rd"
    refine r_iteNF rfl ?_
    walk_at "rd"
    refine ⟨a, c i, dd, _, _, _, true, rfl, s4 _ _ g1, s4 _ _ g2, ea.exc, .ty _, ea.ve, ?_⟩
    walk_at "rd"
    rw [n5]
    walk_at "rd"
    refine ⟨by walk_at "sz", fun c5 e5 => ?_⟩
    walk_at "rd"
    obtain ⟨z0, y1, y2, y3⟩ := marks_ix ea.lt
    refine ⟨c3, _, .bl true, i, z0, rfl, rfl, SqL.of (upd_new e5 g4), rfl, rfl, y1, y2, y3, ?_⟩
    refine r_ixL (xs := errNames.map V.str) (SqL.of upd_same) (name_at ea.lt) ?_
    walk_at "rd"
    refine ⟨_, rfl, a, c i, dd, _, v, rfl, upd_new e5 (s4 _ _ g1), upd_new e5 (s4 _ _ g2), ea.xf, ea.nof, rfl, ?_⟩
    walk_at "rd"
    refine ⟨by walk_at "sz", fun c6 n6 => ?_⟩
    walk_at "rd"
    have sz := ((sa.trans s4).trans (same_new (o := .lst (errNames.map V.str)) e5)).trans (same_new (o := .lst [.str (errName i), v]) n6)
    exact ⟨c6, errName i, v, t, rfl, upd_same, od.same sz, fit, z _ sz⟩

end K10


namespace K10
open PySem L2 KB KO KV KY KR
/-- a bit of class n: of the family, or of its kind at k -/
def Obj (cl : Nat → Addr) (CK : Addr) (n : Nat) (ko : Option Addr) (H : Hp) (a : Addr) (s : Int) : Prop := match ko with
  | none => BitAt (cl n) H a s
  | some k => k ≠ a ∧ KBAt (cl 16) CK H a s k (rN n) (wN n) (dN n)
def spRd17 (cl : Nat → Addr) (CK : Addr) (j : Nat) : Sp := if j = 16 then spKRd (cl 16) CK else spRd (cl j) (fr j)
def spDe17 (cl : Nat → Addr) (CK : Addr) (j : Nat) : Sp := if j = 16 then spKDe (cl 16) CK else spDe (cl j) (gd j) (fdd j)
theorem read17 {cl : Nat → Addr} {CK a : Addr} {n : Nat} {ko : Option Addr} {H : Hp} {s : Int} {Q : VK} {E : XK} (h : Obj cl CK n ko H a s) (hn : n < 16) (hs : s ∈ statesOf (wN n)) (q : ∀ H', Obj cl CK n ko H' a (fr n s) → Keep a H H' → Q (.int (s % 2)) H') :
    ∃ j : Fin 17, ∃ dx fs, H a = some (.ins (cl j.val) dx fs) ∧ fs.lookup ("read" : Str) = none ∧ spRd17 cl CK j.val [.ref a] H Q E := by
  cases ko with
  | none =>
    obtain ⟨dx, e⟩ := id (show BitAt (cl n) H a s from h)
    refine ⟨⟨n, by omega⟩, dx, _, e, rfl, ?_⟩
    unfold spRd17
    rw [if_neg (show ¬ n = 16 by omega)]
    exact ⟨a, s, rfl, h, q⟩
  | some k =>
    obtain ⟨nk, kb⟩ := id (show k ≠ a ∧ KBAt (cl 16) CK H a s k (rN n) (wN n) (dN n) from h)
    obtain ⟨⟨dx, e⟩, kd⟩ := id kb
    refine ⟨⟨16, by omega⟩, dx, _, e, rfl, ?_⟩
    unfold spRd17
    rw [if_pos rfl]
    refine ⟨a, k, s, _, _, _, rfl, nk, kb, fun H' b' kp => q H' ?_ kp⟩
    rw [(read_is n hn s hs).1]
    exact ⟨nk, b'⟩
theorem deed17 {cl : Nat → Addr} {CK a : Addr} {n : Nat} {ko : Option Addr} {H : Hp} {s : Int} {Q : VK} {E : XK} (h : Obj cl CK n ko H a s) (hn : n < 16) (hs : s ∈ statesOf (wN n)) (q : ∀ H', Obj cl CK n ko H' a (fdd n s) → Keep a H H' → Q (.bl (gd n s)) H') :
    ∃ j : Fin 17, ∃ dx fs, H a = some (.ins (cl j.val) dx fs) ∧ fs.lookup ("deed" : Str) = none ∧ spDe17 cl CK j.val [.ref a] H Q E := by
  cases ko with
  | none =>
    obtain ⟨dx, e⟩ := id (show BitAt (cl n) H a s from h)
    refine ⟨⟨n, by omega⟩, dx, _, e, rfl, ?_⟩
    unfold spDe17
    rw [if_neg (show ¬ n = 16 by omega)]
    exact ⟨a, s, rfl, h, q⟩
  | some k =>
    obtain ⟨nk, kb⟩ := id (show k ≠ a ∧ KBAt (cl 16) CK H a s k (rN n) (wN n) (dN n) from h)
    obtain ⟨⟨dx, e⟩, kd⟩ := id kb
    refine ⟨⟨16, by omega⟩, dx, _, e, rfl, ?_⟩
    unfold spDe17
    rw [if_pos rfl]
    refine ⟨a, k, s, _, _, _, rfl, nk, (words_in n hn).2.2, kb, fun H' b' kp => ?_⟩
    obtain ⟨e1, e2, _⟩ := deed_is n hn s hs
    rw [← e1]
    refine q H' ?_ kp
    rw [e2]
    exact ⟨nk, b'⟩
def spWr17 (cl : Nat → Addr) (CK cR : Addr) (j : Nat) : Sp := if j = 16 then spKWr (cl 16) CK cR else spWr (cl j) cR (fw j)
/-- a value that is no bit: the refusal, the bit as it was -/
theorem refuse17 {cl : Nat → Addr} {CK cR a : Addr} {n : Nat} {ko : Option Addr} {H : Hp} {s : Int} {v : V} {t : Dt} {Q : VK} {E : XK} (h : Obj cl CK n ko H a s) (hn : n < 16) (od : OdAt H v t) (nb : isBit t = false) (x : Bad cR v t H E) :
    ∃ j : Fin 17, ∃ dx fs, H a = some (.ins (cl j.val) dx fs) ∧ fs.lookup ("write" : Str) = none ∧ spWr17 cl CK cR j.val [.ref a, v] H Q E := by
  have no : ∀ b, t = .sc (.int b) → (b = 0 ∨ b = 1) → False := fun b e hb => by
    subst e
    have : isBit (.sc (.int b)) = true := decide_eq_true hb
    rw [this] at nb
    cases nb
  cases ko with
  | none =>
    obtain ⟨dx, e⟩ := id (show BitAt (cl n) H a s from h)
    refine ⟨⟨n, by omega⟩, dx, _, e, rfl, ?_⟩
    unfold spWr17
    rw [if_neg (show ¬ n = 16 by omega)]
    exact ⟨a, s, v, t, rfl, od, h, fun b e hb => (no b e hb).elim, x⟩
  | some k =>
    obtain ⟨nk, kb⟩ := id (show k ≠ a ∧ KBAt (cl 16) CK H a s k (rN n) (wN n) (dN n) from h)
    obtain ⟨⟨dx, e⟩, kd⟩ := id kb
    refine ⟨⟨16, by omega⟩, dx, _, e, rfl, ?_⟩
    unfold spWr17
    rw [if_pos rfl]
    exact ⟨a, k, s, _, _, _, v, t, rfl, od, nk, kb, fun b e hb => (no b e hb).elim, x⟩
def spKWr0 (C CK : Addr) : Sp := fun vs H Q _ => ∃ (a k : Addr) (s b : Int) (r w d : Str), vs = [.ref a, .int b] ∧ (b = 0 ∨ b = 1) ∧ k ≠ a ∧ KBAt C CK H a s k r w d ∧ ∀ H', KBAt C CK H' a (afterWrite w s b) k r w d → Keep a H H' → Q .non H'
theorem kwr_calm {P : Program} {w : World} {K : PySem.W.Frag} {mg : Str → Option Value} {base : Heap} {k : Nat} {g C CK cR : Addr} {fd : FuncData} {ps : List Str} (F : FnOk P w K mg base (L2.CX P w) k g fd ps (spKWr C CK cR)) : FnOk P w K mg base CX0 k g fd ps (spKWr0 C CK) := by
  refine calm_of F fun vs H Q E h => ?_
  obtain ⟨a, k, s, b, r, wr, d, rfl, hb, nk, kb, q⟩ := h
  refine ⟨a, k, s, r, wr, d, .int b, .sc (.int b), rfl, rfl, nk, kb, fun b' eb _ H' b1 k1 => ?_, fun z => ?_⟩
  · cases eb
    exact q H' b1 k1
  · have : isBit (.sc (.int b)) = true := decide_eq_true hb
    rw [this] at z
    cases z
def spWr017 (cl : Nat → Addr) (CK : Addr) (j : Nat) : Sp := if j = 16 then spKWr0 (cl 16) CK else spWr0 (cl j) (fw j)
theorem write17 {cl : Nat → Addr} {CK a : Addr} {n : Nat} {ko : Option Addr} {H : Hp} {s b : Int} {Q : VK} {E : XK} (h : Obj cl CK n ko H a s) (hn : n < 16) (hs : s ∈ statesOf (wN n)) (hb : b = 0 ∨ b = 1) (q : ∀ H', Obj cl CK n ko H' a (fw n s b) → Keep a H H' → Q .non H') :
    ∃ j : Fin 17, ∃ dx fs, H a = some (.ins (cl j.val) dx fs) ∧ fs.lookup ("write" : Str) = none ∧ spWr017 cl CK j.val [.ref a, .int b] H Q E := by
  cases ko with
  | none =>
    obtain ⟨dx, e⟩ := id (show BitAt (cl n) H a s from h)
    refine ⟨⟨n, by omega⟩, dx, _, e, rfl, ?_⟩
    unfold spWr017
    rw [if_neg (show ¬ n = 16 by omega)]
    exact ⟨a, s, b, rfl, hb, h, q⟩
  | some k =>
    obtain ⟨nk, kb⟩ := id (show k ≠ a ∧ KBAt (cl 16) CK H a s k (rN n) (wN n) (dN n) from h)
    obtain ⟨⟨dx, e⟩, kd⟩ := id kb
    refine ⟨⟨16, by omega⟩, dx, _, e, rfl, ?_⟩
    unfold spWr017
    rw [if_pos rfl]
    refine ⟨a, k, s, b, _, _, _, rfl, hb, nk, kb, fun H' b' kp => q H' ?_ kp⟩
    rw [(write_is n hn s hs b (by rcases hb with rfl | rfl <;> simp)).1]
    exact ⟨nk, b'⟩
theorem Obj.held {cl : Nat → Addr} {CK a : Addr} {n : Nat} {ko : Option Addr} {H : Hp} {s : Int} (h : Obj cl CK n ko H a s) (hn : n < 16) : ∃ j : Fin 17, ∃ dx fs, H a = some (.ins (cl j.val) dx fs) ∧ HeldAt (cl j.val) H a s := by
  cases ko with
  | none =>
    obtain ⟨dx, e⟩ := id (show BitAt (cl n) H a s from h)
    exact ⟨⟨n, by omega⟩, dx, _, e, dx, _, e⟩
  | some k =>
    obtain ⟨nk, ⟨dx, e⟩, kd⟩ := id (show k ≠ a ∧ KBAt (cl 16) CK H a s k (rN n) (wN n) (dN n) from h)
    exact ⟨⟨16, by omega⟩, dx, _, e, dx, _, e⟩
end K10


namespace K10
open PySem L2 KB KO KV KY KR
abbrev qA : Str := "_law_act.<locals>.<lambda>"
abbrev qC : Str := "_law_class_right.<locals>.<lambda>"
abbrev TT2 (PA PC : Addr) : List (Addr × Str) := [(PA, qA), (PC, qC)]
theorem uniqA {PA PC : Addr} (h : PA ≠ PC) : ∀ p ∈ TT2 PA PC, p.1 = PA → p.2 = qA := fun p hp e => by
  simp only [TT2, List.mem_cons, List.not_mem_nil, or_false] at hp
  rcases hp with rfl | rfl
  · rfl
  · exact absurd e.symm h
theorem uniqC {PA PC : Addr} (h : PA ≠ PC) : ∀ p ∈ TT2 PA PC, p.1 = PC → p.2 = qC := fun p hp e => by
  simp only [TT2, List.mem_cons, List.not_mem_nil, or_false] at hp
  rcases hp with rfl | rfl
  · exact absurd e h
  · rfl
/-- what either sort of bit answers -/
structure F17 (P : Program) (w : World) (K : PySem.W.Frag) (mg : Str → Option Value) (base : Heap) (cl : Nat → Addr) (CK cR : Addr) (j : Nat) : Prop where
  m_read : CalleeM P w K mg base CX0 5 (cl j) "read" ["self"] (spRd17 cl CK j)
  m_deed : CalleeM P w K mg base CX0 9 (cl j) "deed" ["self"] (spDe17 cl CK j)
  k_write : CalleeMK P w K mg base 4 (cl j) "write" ["self", "bit"] (spWr017 cl CK j) 0 ["bit"] (fun us zs => us ++ zs)
  m_write : CalleeM P w K mg base (L2.CX P w) 4 (cl j) "write" ["self", "bit"] (spWr17 cl CK cR j)
  p_now : KW.OwnP P w K mg base 1 (cl j) "now" ["self"] (spNow (cl j))
  p_state : KW.OwnP P w K mg base 1 (cl j) "state" ["self"] (spState (cl j))
structure HeardC (K : PySem.W.Frag) (mg : Str → Option Value) : Prop where
  ex : ∃ (g : Addr) (oc kV doc pm cdg ct : Value) (od an : Option Addr) (osl : Array (Option Value)), mg "_law_heard" = some (.ref g) ∧ PySem.W.keepIn K (.ref g) = true ∧
    K.lookup g = some ⟨oc, od, .func (PySem.W.fnOf "_law_heard" "_law_heard" (defArgs s__law_heard) (defBody s__law_heard) (defScope s__law_heard) .none kV doc pm an cdg ct), osl⟩ ∧ PySem.W.codeIn K cdg "_law_heard" = true ∧
    L2.Binds K (PySem.W.fnOf "_law_heard" "_law_heard" (defArgs s__law_heard) (defBody s__law_heard) (defScope s__law_heard) .none kV doc pm an cdg ct) ["_law_ask"] []
theorem od_ext {H H' : Hp} {v : V} {t : Dt} (h : OdAt H v t) (e : LamX.ExtN H H') : OdAt H' v t := by
  cases t with
  | sc s => exact h
  | tup l => obtain ⟨a, z, g⟩ := h; exact ⟨a, z, e _ _ g (fun ps z => by cases z)⟩
  | lst l => obtain ⟨a, z, g⟩ := h; exact ⟨a, z, e _ _ g (fun ps z => by cases z)⟩
  | dct l => obtain ⟨a, z, g⟩ := h; exact ⟨a, z, e _ _ g (fun ps z => by cases z)⟩
theorem ext_same {H H' : Hp} (s : Same H H') : LamX.ExtN H H' := .of s
/-- all but the tables and the bit at a stay -/
def KeepN (a : Addr) (H H' : Hp) : Prop := ∀ b o, H b = some o → (∀ ps, o ≠ .tbl ps) → b ≠ a → H' b = some o
theorem KeepN.ext {a : Addr} {H H' : Hp} (e : LamX.ExtN H H') : KeepN a H H' := fun b o h n _ => e b o h n
theorem KeepN.kp {a : Addr} {H H' : Hp} (e : Keep a H H') : KeepN a H H' := fun b o h _ n => e b o h n
theorem KeepN.same {a : Addr} {H H' : Hp} (e : Same H H') : KeepN a H H' := fun b o h _ _ => e b o h
theorem KeepN.tr {a : Addr} {H1 H2 H3 : Hp} (x : KeepN a H1 H2) (y : KeepN a H2 H3) : KeepN a H1 H3 := fun b o h n m => y b o (x b o h n m) n m
theorem kind_ext {CK k : Addr} {r w d : Str} {H H' : Hp} (h : KindAt CK H k r w d) (e : LamX.ExtN H H') : KindAt CK H' k r w d := by
  obtain ⟨dy, st, h1, h2⟩ := h
  exact ⟨dy, st, e _ _ h1 (fun ps z => by cases z), e _ _ h2 (fun ps z => by cases z)⟩
theorem Obj.ext {cl : Nat → Addr} {CK a : Addr} {n : Nat} {ko : Option Addr} {H H' : Hp} {s : Int} (h : Obj cl CK n ko H a s) (e : LamX.ExtN H H') : Obj cl CK n ko H' a s := by
  cases ko with
  | none =>
    obtain ⟨dx, g⟩ := id (show BitAt (cl n) H a s from h)
    exact ⟨dx, e _ _ g (fun ps z => by cases z)⟩
  | some k =>
    obtain ⟨nk, ⟨dx, g⟩, kd⟩ := id (show k ≠ a ∧ KBAt (cl 16) CK H a s k (rN n) (wN n) (dN n) from h)
    exact ⟨nk, ⟨dx, e _ _ g (fun ps z => by cases z)⟩, kind_ext kd e⟩
theorem Obj.ins {cl : Nat → Addr} {CK a : Addr} {n : Nat} {ko : Option Addr} {H : Hp} {s : Int} (h : Obj cl CK n ko H a s) : ∃ C dx fs, H a = some (.ins C dx fs) := by
  cases ko with
  | none =>
    obtain ⟨dx, g⟩ := id (show BitAt (cl n) H a s from h)
    exact ⟨_, _, _, g⟩
  | some k =>
    obtain ⟨nk, ⟨dx, g⟩, kd⟩ := id (show k ≠ a ∧ KBAt (cl 16) CK H a s k (rN n) (wN n) (dN n) from h)
    exact ⟨_, _, _, g⟩
theorem tabs_kp {T : List (Addr × Str)} {H H' : Hp} {a C dx : Addr} {fs : List (Str × V)} (t : LamX.Tabs T H) (k : Keep a H H') (h : H a = some (.ins C dx fs)) : LamX.Tabs T H' := by
  intro p hp
  obtain ⟨ps, h1, h2, h3⟩ := t p hp
  refine ⟨ps, k _ _ h1 (fun z => by rw [z, h] at h1; cases h1), h2, fun pos cv hc => ?_⟩
  obtain ⟨c, e1, e2⟩ := h3 pos cv hc
  refine ⟨c, e1, k _ _ e2 (fun z => by rw [z, h] at e2; unfold LamX.CodeO at e2; cases e2)⟩
/-- the state behind an act, and what is told of it -/
def stA (n : Nat) (p : Int) (s : Int) : Int := if p = 0 then fr n s else if p = 1 then fdd n s else if p < 4 then fw n s (p - 2) else s
def txA (n : Nat) (p : Int) (s : Int) (t : Dt) : Str := if p = 0 then (PyData.int (s % 2)).shown else if p = 1 then (PyData.bool (gd n s)).shown else if p < 4 then PyData.none.shown else (pairD "word" t).shown
theorem st_in {n : Nat} {p s : Int} (hn : n < 16) (hs : s ∈ statesOf (wN n)) (h0 : 0 ≤ p) : stA n p s ∈ statesOf (wN n) := by
  unfold stA
  split
  · exact (read_is n hn s hs).2
  split
  · exact (deed_is n hn s hs).2.2
  split
  · refine (write_is n hn s hs (p - 2) ?_).2
    have : p = 2 ∨ p = 3 := by omega
    rcases this with rfl | rfl <;> decide
  · exact hs
theorem st_small : ∀ n < 16, ∀ s ∈ statesOf (wN n), 0 ≤ s ∧ s < 4 := by decide +kernel
def spAct (cl : Nat → Addr) (CK : Addr) (T : List (Addr × Str)) : Sp := fun vs H Q _ => ∃ (a : Addr) (p : Int) (n : Nat) (ko : Option Addr) (s : Int) (v : V) (t : Dt), vs = [.ref a, .int p, v] ∧ n < 16 ∧ s ∈ statesOf (wN n) ∧ 0 ≤ p ∧ Obj cl CK n ko H a s ∧ OdAt H v t ∧ OddT t ∧ LamX.Tabs T H ∧
  ∀ H' q, H' q = some (.tup [.str (txA n p s t), .int (stA n p s % 2), .int (stA n p s)]) → Obj cl CK n ko H' a (stA n p s) → KeepN a H H' → LamX.Tabs T H' → Q (.ref q) H'
/-! ### the acts as steps -/
section
variable {cl : Nat → Addr} {CK a : Addr} {n : Nat} {ko : Option Addr} {H : Hp} {s b : Int} {σ : L2.St} {Q : VK}
theorem r_read17 (h0 : σ[0]? = some (some (.ref a))) (h : Obj cl CK n ko H a s) (hn : n < 16) (hs : s ∈ statesOf (wN n)) (q : ∀ H', Obj cl CK n ko H' a (fr n s) → Keep a H H' → Q (.int (s % 2)) H') :
    KQ.tEx (fun i : Fin 17 => tMeth (cl i.val) "read" (spRd17 cl CK i.val) [] E0 (tVar 0) tNil) σ H Q := by
  obtain ⟨j, dx, fs, e, l, sp⟩ := read17 (E := E0) h hn hs q
  exact ⟨j, _, h0, a, dx, fs, rfl, e, l, sp⟩
theorem r_deed17 (h0 : σ[0]? = some (some (.ref a))) (h : Obj cl CK n ko H a s) (hn : n < 16) (hs : s ∈ statesOf (wN n)) (q : ∀ H', Obj cl CK n ko H' a (fdd n s) → Keep a H H' → Q (.bl (gd n s)) H') :
    KQ.tEx (fun i : Fin 17 => tMeth (cl i.val) "deed" (spDe17 cl CK i.val) [] E0 (tVar 0) tNil) σ H Q := by
  obtain ⟨j, dx, fs, e, l, sp⟩ := deed17 (E := E0) h hn hs q
  exact ⟨j, _, h0, a, dx, fs, rfl, e, l, sp⟩
theorem r_write17 {tk : TA} (h0 : σ[0]? = some (some (.ref a))) (h : Obj cl CK n ko H a s) (hn : n < 16) (hs : s ∈ statesOf (wN n)) (hb : b = 0 ∨ b = 1) (hk : ∀ R : List V → Hp → Prop, R [.int b] H → tk σ H R) (q : ∀ H', Obj cl CK n ko H' a (fw n s b) → Keep a H H' → Q .non H') :
    KQ.tEx (fun i : Fin 17 => tMethK0 (cl i.val) "write" 1 (spWr017 cl CK i.val) (fun us zs => us ++ zs) (tVar 0) tk) σ H Q := by
  obtain ⟨j, dx, fs, e, l, sp⟩ := write17 (E := E0) h hn hs hb q
  exact ⟨j, _, h0, a, dx, fs, rfl, e, l, hk _ ⟨rfl, sp⟩⟩
theorem r_now17 {ta : TE} (ht : ∀ R : VK, R (.ref a) H → ta σ H R) (h : Obj cl CK n ko H a s) (hn : n < 16) (q : Q (.int (s % 2)) H) : KQ.tEx (fun i : Fin 17 => tProp (cl i.val) (spNow (cl i.val)) [] E0 ta) σ H Q := by
  obtain ⟨j, dx, fs, e, hh⟩ := h.held hn
  exact ⟨j, ht _ ⟨a, dx, fs, rfl, e, a, s, rfl, hh, q⟩⟩
theorem r_state17 {ta : TE} (ht : ∀ R : VK, R (.ref a) H → ta σ H R) (h : Obj cl CK n ko H a s) (hn : n < 16) (q : Q (.int s) H) : KQ.tEx (fun i : Fin 17 => tProp (cl i.val) (spState (cl i.val)) [] E0 ta) σ H Q := by
  obtain ⟨j, dx, fs, e, hh⟩ := h.held hn
  exact ⟨j, ht _ ⟨a, dx, fs, rfl, e, a, s, rfl, hh, q⟩⟩
end
/-! ### the lambda -/
def lamA (cl : Nat → Addr) (CK cR : Addr) : XK → TE := fun E => KQ.tEx fun i : Fin 17 => tMeth (cl i.val) "write" (spWr17 cl CK cR i.val) [] E (tVar 0) (tCons (tVar 2) tNil)
theorem heard_wr {K : PySem.W.Frag} {CB : Addr} {c : Nat → Addr} {cl : Nat → Addr} {CK a : Addr} {n : Nat} {ko : Option Addr} {H1 : Hp} {s : Int} {v : V} {t : Dt} {σ : L2.St} {Q : VK} (EA : ErrAt K CB c 2) (h0 : σ[0]? = some (some (.ref a))) (h2 : σ[2]? = some (some v)) (ob : Obj cl CK n ko H1 a s) (hn : n < 16) (od : OdAt H1 v t) (ok : OddT t)
    (q : ∀ H2, Same H1 H2 → Q (.str (pairD "word" t).shown) H2) : TH K CB c (fun E H' Q' => lamA cl CK (c 2) E σ H' Q') H1 Q := by
  obtain ⟨j, dx, fs, e, l, sp⟩ := refuse17 (cR := c 2) (E := echo K CB c Q) (Q := fun v H1 => ([V.str "told", v] : List V).length ≤ sizeLine ∧ ∀ p, H1 p = none → rReprT [.ref p] (upd H1 p (.lst [.str "told", v])) Q) ob hn od ok.bad (fun _ d H' sm hd => ⟨2, d, v, t, EA, rfl, rfl, hd, od.same sm, ok.fit, fun H2 s2 => q H2 (sm.trans s2)⟩)
  exact ⟨j, _, h0, a, dx, fs, rfl, e, l, _, h2, sp⟩

section
variable {P : Program} {w : World} {K : PySem.W.Frag} {mg : Str → Option Value} {base : Heap}
theorem ok_act {f CB CK cA PA PC : Addr} {c cl : Nat → Addr} {oc kV dc pm ct : Value} {od an : Option Addr} {sl : Array (Option Value)} (look : K.lookup f = some ⟨oc, od, .func (PySem.W.fnOf "_law_act" "_law_act" (defArgs s__law_act) (defBody s__law_act) (defScope s__law_act) .none kV dc pm an (.ref cA) ct), sl⟩) (code : PySem.W.codeIn K (.ref cA) "_law_act" = true)
    (T : Txt mg) (TE : TxtE K mg CB c) (EA2 : ErrAt K CB c 2) (HC : HeardC K mg) (ap : PA ≠ PC) (TB : LamX.TabB base mg cA PA) (FM : ∀ i : Fin 17, F17 P w K mg base cl CK (c 2) i.val) :
    KG.FnG P w K mg base CX0 11 f (PySem.W.fnOf "_law_act" "_law_act" (defArgs s__law_act) (defBody s__law_act) (defScope s__law_act) .none kV dc pm an (.ref cA) ct) ["_law_one", "_law_pick", "_law_thing"] (spAct cl CK (TT2 PA PC)) := by
  refine KG.fnG_body look code sc__law_act (fun vs H Q E h => ?_) (fun A outer s H vs Q E hr fr h => ?_)
  · obtain ⟨a, p, n, ko, s, v, t, rfl, _⟩ := h
    rfl
  · obtain ⟨a, p, n, ko, s0, v, t, rfl, hn, hs, h0, ob, o, ok, tb, q⟩ := h
    obtain ⟨g, oc, kV, doc, pm, cdg, ct, od, an, osl, hmg, hkp, hlk, hcg, hbd⟩ := HC.ex
    have uA := uniqA ap
    have sm4 := st_small n hn s0 hs
    obtain ⟨C0, dx0, fs0, hins⟩ := ob.ins
    obtain ⟨t', drv, rdg⟩ : ∃ t', PSs (cxOf CX0 P w K mg base ["_law_one", "_law_pick", "_law_thing", "_law_heard_here"] "_law_act" (defScope s__law_act) f (.ref cA) A outer s H E).nox (defBody s__law_act) t' ∧ t' { nx := fun _ H' => Q .non H', rt := Q } (start ["_law_one", "_law_pick", "_law_thing", "_law_heard_here"] [.ref a, .int p, v]) H := by
      refine ⟨_, (Evl.pss_cut (ps_if (pt_cmpR op_eq (pv 1) pe_int (nomark _)) (pss_one (ps_set (i := 3) sc__law_act.nd rfl (by first | exact Or.inl rfl | exact Or.inr rfl) (pe_callB (KG.call_reprD fr hr) (by rfl) T.z_repr (by decide +kernel) (pa_cons (KQ.pe_ex fun i => pe_methC0 (FM i).m_read (pv 0) (hr.mono (by decide)) pass0) pa_nil))))
 (pss_one (ps_if (pt_cmpR op_eq (pv 1) pe_int (nomark _)) (pss_one (ps_set (i := 3) sc__law_act.nd rfl (by first | exact Or.inl rfl | exact Or.inr rfl) (pe_callB (KG.call_reprD fr hr) (by rfl) T.z_repr (by decide +kernel) (pa_cons (KQ.pe_ex fun i => pe_methC0 (FM i).m_deed (pv 0) (hr.mono (by decide)) pass0) pa_nil))))
 (pss_one (ps_if (pt_cmpR op_lt (pv 1) pe_int (nomark _)) (pss_one (ps_set (i := 3) sc__law_act.nd rfl (by first | exact Or.inl rfl | exact Or.inr rfl) (pe_callB (KG.call_reprD fr hr) (by rfl) T.z_repr (by decide +kernel) (pa_cons (KQ.pe_ex fun i => KO.pe_methK0 (FM i).k_write (pv 0) (hr.mono (by decide)) (pk_cons (pe_op op_sub (pv 1) pe_int) pk_nil)) pa_nil))))
 (pss_one (ps_set (i := 3) sc__law_act.nd rfl (by first | exact Or.inl rfl | exact Or.inr rfl) (LamX.pe_lamcall (T := TT2 PA PC) (TT := TH K CB c) (k := 4) (t := lamA cl CK (c 2)) (by rfl) hmg hkp hlk hcg hbd sc__law_heard rfl (Or.inl rfl) (heard_gives (k := 0) TE fr (hr.mono (by decide))) TB rfl (List.mem_cons_self ..) uA (hr.mono (by decide)) (LamX.lamS_by (sc := defScope s__law_act) (by decide +kernel)) rfl (fun _ _ _ _ _ => rfl) (fun A1 o1 s1 H1 E1 f1 c1 hr1 => (KQ.pe_ex fun i => pe_methC (FM i).m_write (pv 0) (hr1.mono (by decide)) KL.lam_pass (pa_cons (pv 2) pa_nil)))))))))))
 (pss_one (ps_ret (pe_tup (pa_cons (pv 3) (pa_cons (KQ.pe_ex fun i => KW.pe_propO (FM i).p_now (pv 0) (hr.mono (by decide))) (pa_cons (KQ.pe_ex fun i => KW.pe_propO (FM i).p_state (pv 0) (hr.mono (by decide))) pa_nil))))))), at_start (σ := [some (.ref a), some (.int p), some v, none]) rfl ?_⟩
      try dsimp only [cx_K]
      refine ⟨fun σ' H' => σ' = [some (.ref a), some (.int p), some v, some (.str (txA n p s0 t))] ∧ Obj cl CK n ko H' a (stA n p s0) ∧ KeepN a H H' ∧ LamX.Tabs (TT2 PA PC) H', ?_, ?_⟩
      · walk_at "rd"
        refine r_iteI2 (fun e => ?_) (fun e => ?_)
        · walk_at "rd"
          refine r_read17 rfl ob hn hs fun H' o1 k1 => ?_
          walk_at "rd"
          refine KV.r_reprS (.int _) (Sm.int (by omega)) (by decide) (by decide) ?_
          walk_at "rd"
          refine ⟨by unfold txA; rw [if_pos e]; rfl, ?_, KeepN.kp k1, tabs_kp tb k1 hins⟩
          unfold stA
          rw [if_pos e]
          exact o1
        walk_at "rd"
        refine r_iteI2 (fun e1 => ?_) (fun e1 => ?_)
        · walk_at "rd"
          refine r_deed17 rfl ob hn hs fun H' o1 k1 => ?_
          walk_at "rd"
          refine KV.r_reprS (.bl _) Sm.bool (by decide) (by decide) ?_
          walk_at "rd"
          refine ⟨by unfold txA; rw [if_neg e, if_pos e1]; rfl, ?_, KeepN.kp k1, tabs_kp tb k1 hins⟩
          unfold stA
          rw [if_neg e, if_pos e1]
          exact o1
        walk_at "rd"
        refine r_ite2 (fun e2 => ?_) (fun e2 => ?_)
        · walk_at "rd"
          refine r_write17 (b := p - 2) rfl ob hn hs (by omega) (fun R z => ?_) fun H' o1 k1 => ?_
          · walk_at "rd"
            exact z
          walk_at "rd"
          refine KV.r_reprS .non Sm.none (by decide) (by decide) ?_
          walk_at "rd"
          refine ⟨by unfold txA; rw [if_neg e, if_neg e1, if_pos e2]; rfl, ?_, KeepN.kp k1, tabs_kp tb k1 hins⟩
          unfold stA
          rw [if_neg e, if_neg e1, if_pos e2]
          exact o1
        · walk_at "rd"
          refine ⟨tb, fun H2 x2 t2 => ?_⟩
          refine heard_wr EA2 rfl rfl (ob.ext x2) hn (od_ext o x2) ok fun H3 s3 => ?_
          walk_at "rd"
          refine ⟨by unfold txA; rw [if_neg e, if_neg e1, if_neg e2]; rfl, ?_, KeepN.ext (x2.trans (ext_same s3)), KL.tabs_same t2 s3⟩
          unfold stA
          rw [if_neg e, if_neg e1, if_neg e2]
          exact ob.ext (x2.trans (ext_same s3))
      · rintro σ' H1 ⟨rfl, o1, k1, t1⟩
        walk_at "rd"
        refine r_now17 (fun R z => ⟨_, rfl, z⟩) o1 hn ?_
        walk_at "rd"
        refine r_state17 (fun R z => ⟨_, rfl, z⟩) o1 hn ?_
        walk_at "rd"
        refine ⟨by walk_at "sz", fun q1 nq => ?_⟩
        have sq := same_new (o := .tup [.str (txA n p s0 t), .int (stA n p s0 % 2), .int (stA n p s0)]) nq
        exact q _ q1 upd_same (o1.ext (ext_same sq)) (k1.tr (KeepN.same sq)) (KL.tabs_same t1 sq)
    exact ⟨t', drv.nox, rdg⟩
end
end K10


namespace K10
open PySem L2 KB KO KV KY KR
theorem tabs_keep {T : List (Addr × Str)} {H H' : Hp} {q : Addr} {xs : List V} (t : LamX.Tabs T H) (k : Keep q H H') (hq : H q = some (.lst xs)) : LamX.Tabs T H' :=
  KL.tabs_to t fun b o e n => k b o e (fun z => by rw [z, hq] at e; exact n xs (Option.some.inj e).symm)
theorem tabs_mut {T : List (Addr × Str)} {H : Hp} {l : Addr} {xs ys : List V} (t : LamX.Tabs T H) (h : H l = some (.lst xs)) : LamX.Tabs T (upd H l (.lst ys)) := KL.tabs_to t fun b o e n => by
  rw [upd_ne (fun z => n xs (by rw [z, h] at e; exact (Option.some.inj e).symm))]
  exact e
/-- one object keeps its state while another one acts -/
theorem Obj.keep {cl : Nat → Addr} {CK a b : Addr} {n : Nat} {ko : Option Addr} {H H' : Hp} {s : Int} (h : Obj cl CK n ko H b s) (e : KeepN a H H') (ha : ∃ C dx fs, H a = some (.ins C dx fs)) (nb : b ≠ a) (nk : ∀ k, ko = some k → k ≠ a) : Obj cl CK n ko H' b s := by
  obtain ⟨C, dx, fs, hi⟩ := ha
  cases ko with
  | none =>
    obtain ⟨dx, g⟩ := id (show BitAt (cl n) H b s from h)
    exact ⟨dx, e _ _ g (fun ps z => by cases z) nb⟩
  | some k =>
    obtain ⟨nkb, ⟨dx, g⟩, dy, st, h1, h2⟩ := id (show k ≠ b ∧ KBAt (cl 16) CK H b s k (rN n) (wN n) (dN n) from h)
    exact ⟨nkb, ⟨dx, e _ _ g (fun ps z => by cases z) nb⟩, dy, st, e _ _ h1 (fun ps z => by cases z) (nk k rfl), e _ _ h2 (fun ps z => by cases z) (fun z => by rw [z, hi] at h2; cases h2)⟩
theorem Obj.put {cl : Nat → Addr} {CK b D : Addr} {n : Nat} {ko : Option Addr} {H : Hp} {s : Int} {xs ys : List V} (h : Obj cl CK n ko H b s) (hD : H D = some (.lst xs)) : Obj cl CK n ko (upd H D (.lst ys)) b s := by
  have ne : ∀ {p : Addr} {o : HO}, H p = some o → (∀ xs, o ≠ .lst xs) → upd H D (.lst ys) p = some o := fun {p o} e no => by
    rw [upd_ne (fun z => by rw [z, hD] at e; exact no xs (Option.some.inj e).symm)]
    exact e
  cases ko with
  | none =>
    obtain ⟨dx, g⟩ := id (show BitAt (cl n) H b s from h)
    exact ⟨dx, ne g (fun ps z => by cases z)⟩
  | some k =>
    obtain ⟨nkb, ⟨dx, g⟩, dy, st, h1, h2⟩ := id (show k ≠ b ∧ KBAt (cl 16) CK H b s k (rN n) (wN n) (dN n) from h)
    exact ⟨nkb, ⟨dx, ne g (fun ps z => by cases z)⟩, dy, st, ne h1 (fun ps z => by cases z), ne h2 (fun ps z => by cases z)⟩
structure Tri (cl : Nat → Addr) (CK : Addr) (T : List (Addr × Str)) (pen c B a0 a1 a2 k : Addr) (n : Nat) (s0 s1 s2 : Int) (kk : Nat) (H : Hp) : Prop where
  pn : PenC H pen c kk
  hB : H B = some (.lst [.ref a0, .ref a1, .ref a2])
  nB : B ≠ pen
  o0 : Obj cl CK n none H a0 s0
  o1 : Obj cl CK n (some k) H a1 s1
  o2 : Obj cl CK n none H a2 s2
  d01 : a0 ≠ a1
  d02 : a0 ≠ a2
  d12 : a1 ≠ a2
  k0 : k ≠ a0
  k2 : k ≠ a2
  tb : LamX.Tabs T H
theorem pen_ext {H H' : Hp} {p c : Addr} {k : Nat} (h : PenC H p c k) (e : LamX.ExtN H H') : PenC H' p c k := by
  obtain ⟨ns, at_, left, h1, h2, h3, h4, h5⟩ := h
  exact ⟨ns, at_, left, e _ _ h1 (fun ps z => by cases z), e _ _ h2 (fun ps z => by cases z), h3, h4, h5⟩
theorem pen_keep {H H' : Hp} {p c a C dx : Addr} {fs : List (Str × V)} {k : Nat} (h : PenC H p c k) (e : KeepN a H H') (ha : H a = some (.ins C dx fs)) : PenC H' p c k := by
  obtain ⟨ns, at_, left, h1, h2, h3, h4, h5⟩ := h
  exact ⟨ns, at_, left, e _ _ h1 (fun ps z => by cases z) (fun z => by rw [z, ha] at h1; cases h1), e _ _ h2 (fun ps z => by cases z) (fun z => by rw [z, ha] at h2; cases h2), h3, h4, h5⟩
section
variable {cl : Nat → Addr} {CK pen c B a0 a1 a2 k : Addr} {T : List (Addr × Str)} {n : Nat} {s0 s1 s2 s' : Int} {kk kk' : Nat} {H H' : Hp}
theorem Tri.ext (h : Tri cl CK T pen c B a0 a1 a2 k n s0 s1 s2 kk H) (e : LamX.ExtN H H') (t : LamX.Tabs T H') : Tri cl CK T pen c B a0 a1 a2 k n s0 s1 s2 kk H' :=
  ⟨pen_ext h.pn e, e _ _ h.hB (fun ps z => by cases z), h.nB, h.o0.ext e, h.o1.ext e, h.o2.ext e, h.d01, h.d02, h.d12, h.k0, h.k2, t⟩
theorem Tri.up (h : Tri cl CK T pen c B a0 a1 a2 k n s0 s1 s2 kk H) (e : Same H H') : Tri cl CK T pen c B a0 a1 a2 k n s0 s1 s2 kk H' := h.ext (ext_same e) (KL.tabs_same h.tb e)
theorem Tri.mono (h : Tri cl CK T pen c B a0 a1 a2 k n s0 s1 s2 kk H) (e : kk' ≤ kk) : Tri cl CK T pen c B a0 a1 a2 k n s0 s1 s2 kk' H := { h with pn := h.pn.mono e }
theorem Obj.kp {ko : Option Addr} {a b : Addr} {s : Int} {xs : List V} (h : Obj cl CK n ko H b s) (e : Keep a H H') (ha : H a = some (.lst xs)) : Obj cl CK n ko H' b s := by
  have ne : ∀ {p : Addr} {o : HO}, H p = some o → (∀ xs, o ≠ .lst xs) → H' p = some o := fun {p o} g no => e _ _ g (fun z => by rw [z, ha] at g; exact no xs (Option.some.inj g).symm)
  cases ko with
  | none =>
    obtain ⟨dx, g⟩ := id (show BitAt (cl n) H b s from h)
    exact ⟨dx, ne g (fun ps z => by cases z)⟩
  | some k =>
    obtain ⟨nkb, ⟨dx, g⟩, dy, st, h1, h2⟩ := id (show k ≠ b ∧ KBAt (cl 16) CK H b s k (rN n) (wN n) (dN n) from h)
    exact ⟨nkb, ⟨dx, ne g (fun ps z => by cases z)⟩, dy, st, ne h1 (fun ps z => by cases z), ne h2 (fun ps z => by cases z)⟩
theorem Tri.draw (h : Tri cl CK T pen c B a0 a1 a2 k n s0 s1 s2 kk H) (p : PenC H' pen c kk') (e : Keep pen H H') : Tri cl CK T pen c B a0 a1 a2 k n s0 s1 s2 kk' H' := by
  obtain ⟨xs, hp⟩ := h.pn.lst
  exact ⟨p, e _ _ h.hB h.nB, h.nB, h.o0.kp e hp, h.o1.kp e hp, h.o2.kp e hp, h.d01, h.d02, h.d12, h.k0, h.k2, tabs_keep h.tb e hp⟩
theorem Tri.act0 (h : Tri cl CK T pen c B a0 a1 a2 k n s0 s1 s2 kk H) (e : KeepN a0 H H') (o : Obj cl CK n none H' a0 s') (t : LamX.Tabs T H') : Tri cl CK T pen c B a0 a1 a2 k n s' s1 s2 kk H' := by
  obtain ⟨C, dx, fs, hi⟩ := h.o0.ins
  exact ⟨pen_keep h.pn e hi, e _ _ h.hB (fun ps z => by cases z) (fun z => by have y := h.hB; rw [z, hi] at y; cases y), h.nB, o, h.o1.keep e ⟨C, dx, fs, hi⟩ h.d01.symm (fun k' z => by cases z; exact h.k0), h.o2.keep e ⟨C, dx, fs, hi⟩ h.d02.symm (fun k' z => by cases z), h.d01, h.d02, h.d12, h.k0, h.k2, t⟩
theorem Tri.act1 (h : Tri cl CK T pen c B a0 a1 a2 k n s0 s1 s2 kk H) (e : KeepN a1 H H') (o : Obj cl CK n (some k) H' a1 s') (t : LamX.Tabs T H') : Tri cl CK T pen c B a0 a1 a2 k n s0 s' s2 kk H' := by
  obtain ⟨C, dx, fs, hi⟩ := h.o1.ins
  exact ⟨pen_keep h.pn e hi, e _ _ h.hB (fun ps z => by cases z) (fun z => by have y := h.hB; rw [z, hi] at y; cases y), h.nB, h.o0.keep e ⟨C, dx, fs, hi⟩ h.d01 (fun k' z => by cases z), o, h.o2.keep e ⟨C, dx, fs, hi⟩ h.d12.symm (fun k' z => by cases z), h.d01, h.d02, h.d12, h.k0, h.k2, t⟩
theorem Tri.act2 (h : Tri cl CK T pen c B a0 a1 a2 k n s0 s1 s2 kk H) (e : KeepN a2 H H') (o : Obj cl CK n none H' a2 s') (t : LamX.Tabs T H') : Tri cl CK T pen c B a0 a1 a2 k n s0 s1 s' kk H' := by
  obtain ⟨C, dx, fs, hi⟩ := h.o2.ins
  exact ⟨pen_keep h.pn e hi, e _ _ h.hB (fun ps z => by cases z) (fun z => by have y := h.hB; rw [z, hi] at y; cases y), h.nB, h.o0.keep e ⟨C, dx, fs, hi⟩ h.d02 (fun k' z => by cases z), h.o1.keep e ⟨C, dx, fs, hi⟩ h.d12 (fun k' z => by cases z; exact h.k2), o, h.d01, h.d02, h.d12, h.k0, h.k2, t⟩
theorem Tri.put {D : Addr} {xs ys : List V} (h : Tri cl CK T pen c B a0 a1 a2 k n s0 s1 s2 kk H) (hD : H D = some (.lst xs)) (np : D ≠ pen) (nc : D ≠ c) (nb : D ≠ B) : Tri cl CK T pen c B a0 a1 a2 k n s0 s1 s2 kk (upd H D (.lst ys)) :=
  ⟨h.pn.mut np nc, by rw [upd_ne nb.symm]; exact h.hB, h.nB, h.o0.put hD, h.o1.put hD, h.o2.put hD, h.d01, h.d02, h.d12, h.k0, h.k2, tabs_mut h.tb hD⟩
end
/-- what was told so far: each time the same -/
def Tds (tx : Str) (x y : Int) (ys : List V) (H : Hp) : Prop := ∀ (j : Nat) (v : V), ys[j]? = some v → ∃ q, v = .ref q ∧ H q = some (.tup [.str tx, .int x, .int y])
theorem tx_len {n : Nat} {p s : Int} {t : Dt} (hn : n < 16) (hs : s ∈ statesOf (wN n)) (ok : OddT t) : (reprText (txA n p s t)).length ≤ 400 := by
  have sm := st_small n hn s hs
  have e2 : s % 2 = 0 ∨ s % 2 = 1 := by omega
  unfold txA
  split
  · rcases e2 with e | e <;> rw [e] <;> decide +kernel
  split
  · cases gd n s <;> decide +kernel
  split
  · decide +kernel
  · exact ok.rep
theorem sm_told {n : Nat} {p s x y : Int} {t : Dt} (hn : n < 16) (hs : s ∈ statesOf (wN n)) (ok : OddT t) (hx : x.natAbs < 10 ^ 12) (hy : y.natAbs < 10 ^ 12) : Sm 1300 1 (.tuple [.str (txA n p s t), .int x, .int y]) := (Sm.tuple (n := 400) (k := 0) (fun z m => by
  simp only [List.mem_cons, List.not_mem_nil, or_false] at m
  rcases m with rfl | rfl | rfl
  · exact Sm.str (tx_len hn hs ok)
  · exact (Sm.int hx).mono (by decide) (by decide)
  · exact (Sm.int hy).mono (by decide) (by decide))).mono (by simp) (by simp)
def spClass (T : List (Addr × Str)) : Sp := fun vs H Q _ => ∃ (pen c : Addr) (n k : Nat), vs = [.ref pen, .int n] ∧ n < 16 ∧ PenC H pen c (k + 100) ∧ LamX.Tabs T H ∧ ∀ H', PenC H' pen c k → LamX.Tabs T H' → Q (.bl true) H'
def lamB (cl : Nat → Addr) (cR : Addr) : XK → TE := fun E => tCall (spMkBit cl cR 16) [] E (tCons (tVar 1) (tCons (tVar 8) tNil))
def lamK (cl : Nat → Addr) (cR : Addr) : XK → TE := fun E => tMake (cl 16) (spKInit (cl 16) cR) [] E (tCons (tVar 4) (tCons (tVar 8) tNil))
section
variable {K : PySem.W.Frag} {CB : Addr} {c cl : Nat → Addr} {n : Nat} {H1 : Hp} {v : V} {t : Dt} {σ : L2.St} {Q : VK}
theorem bad_word (EA : ErrAt K CB c 2) (ok : OddT t) {H0 : Hp} (q : ∀ H2, Same H0 H2 → Q (.str (pairD "word" t).shown) H2) (s01 : Same H0 H1) (od : OdAt H1 v t) : Bad (c 2) v t H1 (echo K CB c Q) :=
  fun _ d H' sm hd => ⟨2, d, v, t, EA, rfl, rfl, hd, od.same sm, ok.fit, fun H2 s2 => q H2 ((s01.trans sm).trans s2)⟩
theorem no_bit (ok : OddT t) {b : Int} (e : t = .sc (.int b)) (hb : b = 0 ∨ b = 1) : False := by
  have z := ok.bad
  subst e
  rw [show isBit (.sc (.int b)) = true from decide_eq_true hb] at z
  cases z
theorem heard_mk (EA : ErrAt K CB c 2) (h1 : σ[1]? = some (some (.int n))) (h8 : σ[8]? = some (some v)) (hn : n < 16) (od : OdAt H1 v t) (ok : OddT t) (q : ∀ H2, Same H1 H2 → Q (.str (pairD "word" t).shown) H2) : TH K CB c (fun E H' Q' => lamB cl (c 2) E σ H' Q') H1 Q :=
  ⟨_, h1, _, h8, n, v, t, rfl, hn, od, fun b e hb => (no_bit ok e hb).elim, bad_word EA ok q (Same.refl _) od⟩
theorem heard_kb {k : Addr} (EA : ErrAt K CB c 2) (h4 : σ[4]? = some (some (.ref k))) (h8 : σ[8]? = some (some v)) (od : OdAt H1 v t) (ok : OddT t) (q : ∀ H2, Same H1 H2 → Q (.str (pairD "word" t).shown) H2) : TH K CB c (fun E H' Q' => lamK cl (c 2) E σ H' Q') H1 Q :=
  ⟨_, h4, _, h8, fun x dx nx ndx nxd => ⟨x, dx, k, v, t, rfl, od.same (same_two nx ndx), upd_same, fun b e hb => (no_bit ok e hb).elim, bad_word EA ok q (same_two nx ndx) (od.same (same_two nx ndx))⟩⟩
end
theorem r_makeD0 {σ : L2.St} {H : Hp} {Q : VK} {C : Addr} {sp : Sp} {dvs : List V} {E : XK} {tA : TA} (q : tA σ H fun vs H1 => ∀ x dx, H1 x = none → H1 dx = none → dx ≠ x → sp (.ref x :: (vs ++ dvs)) (upd (upd H1 dx (.own x)) x (.ins C dx [])) (fun v H2 => v = .non ∧ Q (.ref x) H2) E) : tMake C sp dvs E tA σ H Q := q
/-- a comprehension with any property of turn, list and heap -/
theorem lc_any {J : It} {n : Nat} {G : Hp → Prop} {Y : Nat → Hp → V → Hp → Prop} (wk : Walk J n G Y) {g : TG} {tt : TT} {te : TE} {vs : List Nat} {σ : L2.St} {H1 : Hp} {Q : VK} (Pv : Addr → Nat → Hp → Prop) (h0 : ∀ D, H1 D = none → Pv D 0 (upd H1 D (.lst []))) (hG : ∀ D i H, H1 D = none → i ≤ n → Pv D i H → G H)
    (hs : ∀ D i x H H', H1 D = none → i < n → Pv D i H → Y i H x H' → g x (wipe σ vs) H' fun σ2 H2 => wipe σ2 vs = wipe σ vs ∧ tt σ2 H2 fun b H3 =>
      if b = true then te σ2 H3 fun y H4 => ∃ acc, H4 D = some (.lst acc) ∧ acc.length < sizeLine ∧ Pv D (i + 1) (upd H4 D (.lst (acc ++ [y]))) else Pv D (i + 1) H3) (hd : ∀ D H, H1 D = none → Pv D n H → Q (.ref D) H) : LcW J g tt te vs σ H1 Q :=
  fun D hD => lc_it wk (Qd := fun H => Q (.ref D) H) (Pv D) (h0 D hD) (fun i H => hG D i H hD) (fun i x H H' => hs D i x H H' hD) fun H => hd D H hD
def gRev (us zs : List V) : List V := us ++ zs.reverse
/-- what a class makes of 0 or 1 -/
theorem good_bit {b : Int} (hb : b = 0 ∨ b = 1) {cR : Addr} {H : Hp} {E : XK} : Bad cR (.int b) (.sc (.int b)) H E := fun z => by
  rw [show isBit (.sc (.int b)) = true from decide_eq_true hb] at z
  cases z
theorem b_in (n : Nat) {b : Int} (hb : b = 0 ∨ b = 1) : b ∈ statesOf (wN n) := by
  unfold statesOf
  split <;> rcases hb with rfl | rfl <;> simp
theorem same_keep {H H1 : Hp} {x dx C : Addr} (nx : H x = none) (ndx : H dx = none) (k : Keep x (upd (upd H dx (.own x)) x (.ins C dx [])) H1) : Same H H1 := fun c o e => k _ _ (same_two nx ndx _ _ e) (ne_of_none e nx)

section
variable {P : Program} {w : World} {K : PySem.W.Frag} {mg : Str → Option Value} {base : Heap}
theorem ok_class {f CB CK cC PA PC : Addr} {c cl : Nat → Addr} {oc kV dc pm ct : Value} {od an : Option Addr} {sl : Array (Option Value)} (look : K.lookup f = some ⟨oc, od, .func (PySem.W.fnOf "_law_class_right" "_law_class_right" (defArgs s__law_class_right) (defBody s__law_class_right) (defScope s__law_class_right) .none kV dc pm an (.ref cC) ct), sl⟩) (code : PySem.W.codeIn K (.ref cC) "_law_class_right" = true)
    (T : Txt mg) (TE : TxtE K mg CB c) (EA2 : ErrAt K CB c 2) (HC : HeardC K mg) (ap : PA ≠ PC) (TB : LamX.TabB base mg cC PC) (FM : ∀ i : Fin 17, F17 P w K mg base cl CK (c 2) i.val) (tb16 : TxtB K (cl 16)) (n_kind : NoAttr K (cl 16) "kind")
    (c__law_act : KG.CalleeG P w K mg base CX0 11 "_law_act" ["_law_one", "_law_pick", "_law_thing"] (spAct cl CK (TT2 PA PC)))
    (c__law_bit : KB.Callee P w K mg base (L2.CX P w) 7 "_law_bit" ["_law_number", "_law_begin"] (spMkBit cl (c 2) 16))
    (c_KindBit___init__ : CalleeI P w K mg base (L2.CX P w) 6 (cl 16) "KindBit" ["self", "kind", "value"] (spKInit (cl 16) (c 2)))
    (d1_KindBit : KC.CalleeID P w K mg base (L2.CX P w) 6 (cl 16) "KindBit" ["self", "kind", "value"] (spKInit (cl 16) (c 2)) [.int 0])
    (mk_KindBit : CalleeIK P w K mg base (L2.CX P w) 6 (cl 16) "KindBit" ["self", "kind", "value"] (spKInit (cl 16) (c 2)) ["value", "kind"] gRev)
    (c_Kind___init__ : CalleeI P w K mg base CX0 1 CK "Kind" ["self", "reading", "writing", "device"] (spKind CK)) (ne_Kind : OwnNe P w K mg base 1 CK ["self", "other"] (spEq CK))
    (c__law_words_of : KB.Callee P w K mg base CX0 1 "_law_words_of" ["_law_number"] spWordsOf) (c__law_draw : KB.Callee P w K mg base CX0 1 "_law_draw" ["_law_pen_here", "_law_many"] spDraw) (c__law_odd : KB.Callee P w K mg base CX0 2 "_law_odd" ["_law_pen_here"] spOdd) :
    KG.FnG P w K mg base CX0 14 f (PySem.W.fnOf "_law_class_right" "_law_class_right" (defArgs s__law_class_right) (defBody s__law_class_right) (defScope s__law_class_right) .none kV dc pm an (.ref cC) ct) ["_law_pen_here", "_law_number"] (spClass (TT2 PA PC)) := by
  refine KG.fnG_body look code sc__law_class_right (fun vs H Q E h => ?_) (fun A outer s H vs Q E hr fr h => ?_)
  · obtain ⟨pen, c, n, k, rfl, _⟩ := h
    rfl
  · obtain ⟨pen, cc, n, kk, rfl, hn, pn, tb, q⟩ := h
    obtain ⟨g, oc, kV, doc, pm, cdg, ct, od, an, osl, hmg, hkp, hlk, hcg, hbd⟩ := HC.ex
    have uC := uniqC ap
    have cl16 := tb16.cl
    have p_KindBit_now : KW.OwnP P w K mg base 1 (cl 16) "now" ["self"] (spNow (cl 16)) := (FM ⟨16, by decide⟩).p_now
    have p_KindBit_state : KW.OwnP P w K mg base 1 (cl 16) "state" ["self"] (spState (cl 16)) := (FM ⟨16, by decide⟩).p_state
    obtain ⟨wr, ww, wd⟩ := words_in n hn
    obtain ⟨t', drv, rdg⟩ : ∃ t', PSs (cxOf CX0 P w K mg base ["_law_pen_here", "_law_number", "_law_begin", "_law_words", "_law_sort_so", "_law_bits", "_law_turn", "_law_pick", "_law_thing", "_law_ahead", "_law_told", "_law_one", "_law_heard_here"] "_law_class_right" (defScope s__law_class_right) f (.ref cC) A outer s H E).nox (defBody s__law_class_right) t' ∧ t' { nx := fun _ H' => Q .non H', rt := Q } (start ["_law_pen_here", "_law_number", "_law_begin", "_law_words", "_law_sort_so", "_law_bits", "_law_turn", "_law_pick", "_law_thing", "_law_ahead", "_law_told", "_law_one", "_law_heard_here"] [.ref pen, .int n]) H := by
      refine ⟨_, (pss_cons (ps_set (i := 2) sc__law_class_right.nd rfl (by first | exact Or.inl rfl | exact Or.inr rfl) (pe_callC c__law_draw (hr.mono (by decide)) (by rfl) pass0 (pa_cons (pv 0) (pa_cons pe_int pa_nil))))
 (pss_cons (ps_set (i := 3) sc__law_class_right.nd rfl (by first | exact Or.inl rfl | exact Or.inr rfl) (pe_callC c__law_words_of (hr.mono (by decide)) (by rfl) pass0 (pa_cons (pv 1) pa_nil)))
 (pss_cons (ps_set (i := 4) sc__law_class_right.nd rfl (by first | exact Or.inl rfl | exact Or.inr rfl) (pe_makeC c_Kind___init__ (hr.mono (by decide)) (by rfl) pass0 (pa_cons (pe_ix ix_tup (pv 3) pe_int (fun _ _ => rfl)) (pa_cons (pe_ix ix_tup (pv 3) pe_int (fun _ _ => rfl)) (pa_cons (pe_ix ix_tup (pv 3) pe_int (fun _ _ => rfl)) pa_nil)))))
 (pss_cons (ps_set (i := 5) sc__law_class_right.nd rfl (by first | exact Or.inl rfl | exact Or.inr rfl) (pe_lst (pa_cons (pe_callC c__law_bit (hr.mono (by decide)) (by rfl) passL (pa_cons (pv 1) (pa_cons (pv 2) pa_nil))) (pa_cons (pe_makeC c_KindBit___init__ (hr.mono (by decide)) (by rfl) passL (pa_cons (pv 4) (pa_cons (pv 2) pa_nil))) (pa_cons (pe_callC c__law_bit (hr.mono (by decide)) (by rfl) passL (pa_cons (pv 1) (pa_cons (pv 2) pa_nil))) pa_nil)))))
 (pss_cons (ps_if (PW.pt (pw_or (pt_cmpR (KO.op_neO ne_Kind (hr.mono (by decide))) (pe_fld (pe_ix ix_list (pv 5) pe_int (fun _ _ => rfl)) rfl) (pv 4) (nomark _)) (pw_or (pt_cmpR op_ne (KQ.pe_ex fun i => KW.pe_propO (FM i).p_now (pe_ix ix_list (pv 5) pe_int (fun _ _ => rfl)) (hr.mono (by decide))) (pv 2) (nomark _)) (pw_or1 (pt_cmpR op_ne (KW.pe_propO p_KindBit_now (KC.pe_makeD d1_KindBit (hr.mono (by decide)) (by rfl) passL (pa_cons (pv 4) pa_nil)) (hr.mono (by decide))) pe_int (nomark _)))))) (pss_one (ps_ret pe_bl))
 pss_nil)
 (pss_cons (ps_if (pt_cmpR op_ne (KW.pe_propO p_KindBit_state (KO.pe_makeKC mk_KindBit (hr.mono (by decide)) (by rfl) passL (pk_cons pe_int (pk_cons (pv 4) pk_nil))) (hr.mono (by decide))) pe_int (nomark _)) (pss_one (ps_ret pe_bl))
 pss_nil)
 (pss_cons (ps_for PassesOwn.never rfl (pi_range1 rfl T.z_range (pa_cons (pe_callC c__law_draw (hr.mono (by decide)) (by rfl) pass0 (pa_cons (pv 0) (pa_cons pe_int pa_nil))) pa_nil)) (pg_name (i := 6) sc__law_class_right.nd rfl (by first | exact Or.inl rfl | exact Or.inr rfl))
 (pss_cons (ps_set (i := 7) sc__law_class_right.nd rfl (by first | exact Or.inl rfl | exact Or.inr rfl) (pe_callC c__law_draw (hr.mono (by decide)) (by rfl) pass0 (pa_cons (pv 0) (pa_cons pe_int pa_nil))))
 (pss_cons (ps_set (i := 8) sc__law_class_right.nd rfl (by first | exact Or.inl rfl | exact Or.inr rfl) (pe_callC c__law_odd (hr.mono (by decide)) (by rfl) pass0 (pa_cons (pv 0) pa_nil)))
 (pss_cons (ps_set (i := 9) sc__law_class_right.nd rfl (by first | exact Or.inl rfl | exact Or.inr rfl) (KQ.pe_ex fun i => KW.pe_propO (FM i).p_state (pe_ix ix_list (pv 5) pe_int (fun _ _ => rfl)) (hr.mono (by decide))))
 (pss_cons (ps_setLc (i := 10) (own := [("_law_one", 11)]) (g := gName 11) (tt := tYes) (by rfl) sc__law_class_right.nd rfl rfl (sw_true rfl rfl rfl (by decide +kernel)) (pi_list (pv 5)) (blkOk_by (own := [("_law_one", 11)]) (N := ["_law_pen_here", "_law_number", "_law_begin", "_law_words", "_law_sort_so", "_law_bits", "_law_turn", "_law_pick", "_law_thing", "_law_ahead", "_law_told", "_law_one", "_law_heard_here"]) (sc := defScope s__law_class_right) (by decide +kernel)) (fun _ _ _ _ _ => (pg_name (i := 11) sc__law_class_right.nd rfl (by first | exact Or.inl rfl | exact Or.inr rfl))) (fun _ _ _ _ _ => pts_nil) (fun _ _ _ _ _ => (KG.pe_callG c__law_act fr (hr.mono (by decide)) (by rfl) pass0 (pa_cons (pv 11) (pa_cons (pv 7) (pa_cons (pv 8) pa_nil))))))
 (pss_cons (ps_if (PW.pt (pw_or (pt_cmpR op_ne (pe_callB (KG.call_reprD fr hr) (by rfl) T.z_repr (by decide +kernel) (pa_cons (pe_ix ix_list (pv 10) pe_int (fun _ _ => rfl)) pa_nil)) (pe_callB (KG.call_reprD fr hr) (by rfl) T.z_repr (by decide +kernel) (pa_cons (pe_ix ix_list (pv 10) pe_int (fun _ _ => rfl)) pa_nil)) (nomark _)) (pw_or1 (pt_cmpR op_ne (pe_callB (KG.call_reprD fr hr) (by rfl) T.z_repr (by decide +kernel) (pa_cons (pe_ix ix_list (pv 10) pe_int (fun _ _ => rfl)) pa_nil)) (pe_callB (KG.call_reprD fr hr) (by rfl) T.z_repr (by decide +kernel) (pa_cons (pe_ix ix_list (pv 10) pe_int (fun _ _ => rfl)) pa_nil)) (nomark _))))) (pss_one (ps_ret pe_bl))
 pss_nil)
 (pss_one (ps_if (PW.pt (pw_and (pt_cmpR op_gt (pv 7) pe_int (nomark _)) (pw_and1 (PW.pt (pw_or (pt_cmpR op_ne (pe_ix ix_tup (pe_ix ix_list (pv 10) pe_int (fun _ _ => rfl)) pe_int (fun _ _ => rfl)) (pe_callB (KY.call_reprT fr hr) (by rfl) T.z_repr (by decide +kernel) (pa_cons (pe_lst (pa_cons pe_str (pa_cons (pv 8) pa_nil))) pa_nil)) (nomark _)) (pw_or1 (pt_cmpR op_ne (KQ.pe_ex fun i => KW.pe_propO (FM i).p_state (pe_ix ix_list (pv 5) pe_int (fun _ _ => rfl)) (hr.mono (by decide))) (pv 9) (nomark _)))))))) (pss_one (ps_ret pe_bl))
 pss_nil))))))))
 (pss_cons (ps_set (i := 8) sc__law_class_right.nd rfl (by first | exact Or.inl rfl | exact Or.inr rfl) (pe_callC c__law_odd (hr.mono (by decide)) (by rfl) pass0 (pa_cons (pv 0) pa_nil)))
 (pss_cons (ps_set (i := 12) sc__law_class_right.nd rfl (by first | exact Or.inl rfl | exact Or.inr rfl) (pe_lst (pa_cons (LamX.pe_lamcall (T := TT2 PA PC) (TT := TH K CB c) (k := 7) (t := lamB cl (c 2)) (by rfl) hmg hkp hlk hcg hbd sc__law_heard rfl (Or.inl rfl) (heard_gives (k := 0) TE fr (hr.mono (by decide))) TB rfl (List.mem_cons_of_mem _ (List.mem_cons_self ..)) uC (hr.mono (by decide)) (LamX.lamS_by (sc := defScope s__law_class_right) (by decide +kernel)) rfl (fun _ _ _ _ _ => rfl) (fun A1 o1 s1 H1 E1 f1 c1 hr1 => (pe_callC c__law_bit (hr1.mono (by decide)) (by rfl) KL.lam_pass (pa_cons (pv 1) (pa_cons (pv 8) pa_nil))))) pa_nil)))
 (pss_cons (ps_expr (pe_bm PySem.F.plainAttrs_list PySem.F.slot_list_append PySem.F.type_list_append mt_append (pv 12) (pa_cons (LamX.pe_lamcall (T := TT2 PA PC) (TT := TH K CB c) (k := 7) (t := lamK cl (c 2)) (by rfl) hmg hkp hlk hcg hbd sc__law_heard rfl (Or.inl rfl) (heard_gives (k := 0) TE fr (hr.mono (by decide))) TB rfl (List.mem_cons_of_mem _ (List.mem_cons_self ..)) uC (hr.mono (by decide)) (LamX.lamS_by (sc := defScope s__law_class_right) (by decide +kernel)) rfl (fun _ _ _ _ _ => rfl) (fun A1 o1 s1 H1 E1 f1 c1 hr1 => (pe_makeC c_KindBit___init__ (hr1.mono (by decide)) (by rfl) KL.lam_pass (pa_cons (pv 4) (pa_cons (pv 8) pa_nil))))) pa_nil)))
 (pss_one (ps_ret (pe_cmpR (op_eqD hr.units) (pv 12) (pe_op op_rep (pe_lst (pa_cons (pe_callB (KY.call_reprT fr hr) (by rfl) T.z_repr (by decide +kernel) (pa_cons (pe_lst (pa_cons pe_str (pa_cons (pv 8) pa_nil))) pa_nil)) pa_nil)) pe_int) (nomark _)))))))))))))), at_start (σ := [some (.ref pen), some (.int n), none, none, none, none, none, none, none, none, none, none, none]) rfl ?_⟩
      try dsimp only [cx_K]
      walk_at "rd"
      refine ⟨pen, cc, 2, kk + 99, rfl, by decide, by decide, pn, fun b H1 b0 b1 pn1 kp1 => ?_⟩
      have hb : b = 0 ∨ b = 1 := by omega
      obtain ⟨xs0, hp0⟩ := pn.lst
      have tb1 := tabs_keep tb kp1 hp0
      clear kp1 hp0 pn tb xs0
      walk_at "rd"
      refine ⟨n, rfl, hn, fun H2 W s2 eW => ?_⟩
      replace pn1 := pn1.up s2
      replace tb1 := KL.tabs_same tb1 s2
      clear s2
      walk_at "rd"
      intro k dk nk ndk nkd
      refine ⟨k, dk, rN n, wN n, dN n, rfl, wr, ww, wd, upd_same, fun H3 KA kp => ⟨rfl, ?_⟩⟩
      have s3 := same_keep nk ndk kp
      replace pn1 := pn1.up s3
      replace tb1 := KL.tabs_same tb1 s3
      clear s3 kp nk ndk nkd eW
      walk_at "rd"
      refine ⟨n, .int b, .sc (.int b), rfl, hn, rfl, fun b' e hb' H4 a0 na0 s4 o0 => ?_, good_bit hb⟩
      cases e
      replace pn1 := pn1.up s4
      replace tb1 := KL.tabs_same tb1 s4
      have k0 : k ≠ a0 := by obtain ⟨dy, st, z, _⟩ := KA; exact ne_of_none z na0
      replace KA := KA.up s4
      clear s4 na0
      walk_at "rd"
      intro a1 da na1 nda nad
      refine ⟨a1, da, k, .int b, .sc (.int b), rfl, rfl, upd_same, fun b' e hb' H5 da' o1 kp => ⟨rfl, ?_⟩, good_bit hb⟩
      cases e
      have s5 := same_keep na1 nda kp
      replace pn1 := pn1.up s5
      replace tb1 := KL.tabs_same tb1 s5
      have d01 : a0 ≠ a1 := by obtain ⟨dy, z⟩ := o0; exact ne_of_none z na1
      have k1 : k ≠ a1 := by obtain ⟨dy, st, z, _⟩ := KA; exact ne_of_none z na1
      replace KA := KA.up s5
      replace o0 := o0.up s5
      clear s5 kp na1 nda nad
      walk_at "rd"
      refine ⟨n, .int b, .sc (.int b), rfl, hn, rfl, fun b' e hb' H6 a2 na2 s6 o2 => ?_, good_bit hb⟩
      cases e
      replace pn1 := pn1.up s6
      replace tb1 := KL.tabs_same tb1 s6
      have d02 : a0 ≠ a2 := by obtain ⟨dy, z⟩ := o0; exact ne_of_none z na2
      have d12 : a1 ≠ a2 := ne_of_none o1 na2
      have k2 : k ≠ a2 := by obtain ⟨dy, st, z, _⟩ := KA; exact ne_of_none z na2
      replace KA := KA.up s6
      replace o0 := o0.up s6
      replace o1 := s6 _ _ o1
      clear s6 na2
      walk_at "rd"
      refine ⟨by walk_at "sz", fun B nB => ?_⟩
      have nBp := pn1.ne nB
      have nBc := pn1.nec nB
      have sB := same_new (o := .lst [.ref a0, .ref a1, .ref a2]) nB
      have TR : Tri cl CK (TT2 PA PC) pen cc B a0 a1 a2 k n b b b (kk + 99) (upd H6 B (.lst [.ref a0, .ref a1, .ref a2])) :=
        ⟨pn1.up sB, upd_same, nBp, o0.up sB, ⟨k1, ⟨da', sB _ _ o1⟩, KA.up sB⟩, o2.up sB, d01, d02, d12, k0, k2, KL.tabs_same tb1 sB⟩
      generalize upd H6 B (.lst [.ref a0, .ref a1, .ref a2]) = H7 at TR ⊢
      clear sB nB nBp pn1 tb1 o0 o1 o2 d01 d02 d12 k0 k1 k2 KA
      have hs := b_in n hb
      obtain ⟨k1, ⟨dx1, ha1⟩, KA⟩ := id (show k ≠ a1 ∧ KBAt (cl 16) CK H7 a1 b k (rN n) (wN n) (dN n) from TR.o1)
      obtain ⟨dyk, stk, hk, hst⟩ := id KA
      have hB := TR.hB
      walk_at "rd"
      refine ⟨k, dyk, _, k, dyk, _, rfl, rfl, hk, hk, k, k, _, _, _, _, _, _, rfl, KA, KA, _, rfl, ?_⟩
      walk_at "rd"
      refine r_iteNF (c := rN n = rN n ∧ wN n = wN n ∧ dN n = dN n) ⟨rfl, rfl, rfl⟩ ?_
      walk_at "rd"
      refine r_now17 (fun R z => (by walk_at "rd"; exact z)) TR.o1 hn ?_
      walk_at "rd"
      refine r_iteNF (by rcases hb with rfl | rfl <;> rfl) ?_
      walk_at "rd"
      refine r_makeD0 ?_
      walk_at "rd"
      intro x dx nx ndx nxd
      refine ⟨x, dx, k, .int 0, .sc (.int 0), rfl, rfl, upd_same, fun b' e hb' H8 dx' eX kp => ⟨rfl, ?_⟩, good_bit (.inl rfl)⟩
      cases e
      have TR2 := TR.up (same_keep nx ndx kp)
      clear TR kp nx ndx nxd ha1 KA hk hst hB
      walk_at "rd"
      refine ⟨x, dx', _, rfl, eX, x, 0, rfl, ⟨dx', _, eX⟩, ?_⟩
      walk_at "rd"
      refine r_iteNF rfl ?_
      clear eX
      walk_at "rd"
      refine KW.r_prop ?_
      walk_at "rd"
      refine ⟨rfl, rfl, fun x dx nx ndx nxd => ?_⟩
      refine ⟨x, dx, k, .int 1, .sc (.int 1), rfl, rfl, upd_same, fun b' e hb' H9 dx' eX kp => ⟨rfl, ?_⟩, good_bit (.inr rfl)⟩
      cases e
      have TR := TR2.up (same_keep nx ndx kp)
      clear TR2 kp nx ndx nxd
      walk_at "rd"
      refine ⟨x, dx', _, rfl, eX, x, 1, rfl, ⟨dx', _, eX⟩, ?_⟩
      walk_at "rd"
      refine r_iteNF rfl ?_
      clear eX
      walk_at "rd"
      refine ⟨pen, cc, 21, kk + 98, rfl, by decide, by decide, TR.pn, fun r H10 r0 r1 pn10 kp10 => ?_⟩
      have TX := TR.draw pn10 kp10
      clear TR pn10 kp10
      walk_at "rd"
      refine ⟨by omega, by omega, ?_⟩
      refine forW (walk_range (lo := 0) (n := r.toNat)) (fun i σ H' => ∃ y6 y7 y8 y9 y10 y11 s, σ = [some (.ref pen), some (.int n), some (.int b), some (.ref W), some (.ref k), some (.ref B), y6, y7, y8, y9, y10, y11, none] ∧ s ∈ statesOf (wN n) ∧ Tri cl CK (TT2 PA PC) pen cc B a0 a1 a2 k n s s s (kk + 98 - 3 * i) H') ⟨_, _, _, _, _, _, b, rfl, hs, TX.mono (by omega)⟩ (fun _ _ _ _ _ => trivial) ?_ ?_
      · rintro i x σ H11 H11' hi ⟨y6, y7, y8, y9, y10, y11, s, rfl, hs, TR⟩ ⟨rfl, rfl⟩
        clear TX
        have hi20 : i < 20 := by omega
        obtain ⟨j, hj⟩ : ∃ j, kk + 98 - 3 * i = j + 3 := ⟨kk + 98 - 3 * i - 3, by omega⟩
        rw [hj] at TR
        walk_at "rd"
        refine ⟨pen, cc, 6, j + 2, rfl, by decide, by decide, TR.pn, fun p H12 p0 p1 pn12 kp12 => ?_⟩
        have TR2 := TR.draw pn12 kp12
        clear TR pn12 kp12
        walk_at "rd"
        refine ⟨pen, cc, j, rfl, TR2.pn, fun v H13 okv pn13 kp13 => ?_⟩
        have TR := TR2.draw pn13 kp13
        clear TR2 pn13 kp13
        obtain ⟨nvp, t, od0, ok⟩ := okv
        have hB := TR.hB
        walk_at "rd"
        refine r_state17 (fun R z => (by walk_at "rd"; exact z)) TR.o0 hn ?_
        walk_at "rd"
        refine ⟨B, rfl, ⟨_, SqL.of hB⟩, ?_⟩
        obtain ⟨s', hs'⟩ : ∃ s', stA n p s = s' := ⟨_, rfl⟩
        obtain ⟨tx, htx⟩ : ∃ tx, txA n p s t = tx := ⟨_, rfl⟩
        refine lc_any (walk_list (xs := [.ref a0, .ref a1, .ref a2])) (fun D i H' => ∃ ys, Tri cl CK (TT2 PA PC) pen cc B a0 a1 a2 k n (if 0 < i then s' else s) (if 1 < i then s' else s) (if 2 < i then s' else s) j H' ∧ H' D = some (.lst ys) ∧ ys.length = i ∧ Tds tx (s' % 2) s' ys H' ∧ OdAt H' v t)
          (fun D hD => ⟨[], TR.up (same_new hD), upd_same, rfl, (fun j v e => by simp at e), od0.same (same_new hD)⟩) (fun D i H' _ _ ⟨_, z, _⟩ => SqL.of z.hB) (fun D i x H' H'' hD hi3 ⟨ys, TI, eD, ly, td, o⟩ y => ?_) (fun D HE hD ⟨ys, TI, eD, ly, td, o⟩ => ?_)
        · have nDp := TR.pn.ne hD
          have nDc := TR.pn.nec hD
          have nDB : D ≠ B := (ne_of_none hB hD).symm
          have ext_put : ∀ {H' : Hp} {xs ys : List V}, H' D = some (.lst xs) → OdAt H' v t → v ≠ .ref D → OdAt (upd H' D (.lst ys)) v t := fun {H' xs ys} e o nv => o.to fun a' ob ev g => by
            rw [upd_ne (fun z => nv (by rw [ev, z]))]
            exact g
          have nvD : v ≠ .ref D := fun z => by
            subst z
            cases t with
            | sc s => cases s <;> cases od0
            | tup l => obtain ⟨a', e1, e2⟩ := od0; cases e1; rw [hD] at e2; cases e2
            | lst l => obtain ⟨a', e1, e2⟩ := od0; cases e1; rw [hD] at e2; cases e2
            | dct l => obtain ⟨a', e1, e2⟩ := od0; cases e1; rw [hD] at e2; cases e2
          have odK : ∀ {H1 H2 : Hp} {a : Addr}, OdAt H1 v t → KeepN a H1 H2 → (∃ C dx fs, H1 a = some (.ins C dx fs)) → OdAt H2 v t := fun {H1 H2 a} o kn hin => by
            obtain ⟨C, dx, fs, hi⟩ := hin
            cases t with
            | sc s => exact o
            | tup l => obtain ⟨a', e1, e2⟩ := o; exact ⟨a', e1, kn _ _ e2 (fun ps z => by cases z) (fun z => by rw [z, hi] at e2; cases e2)⟩
            | lst l => obtain ⟨a', e1, e2⟩ := o; exact ⟨a', e1, kn _ _ e2 (fun ps z => by cases z) (fun z => by rw [z, hi] at e2; cases e2)⟩
            | dct l => obtain ⟨a', e1, e2⟩ := o; exact ⟨a', e1, kn _ _ e2 (fun ps z => by cases z) (fun z => by rw [z, hi] at e2; cases e2)⟩
          have grow : ∀ {HQ : Hp} {q a : Addr} {u0 u1 u2 : Int}, HQ D = some (.lst ys) → Tri cl CK (TT2 PA PC) pen cc B a0 a1 a2 k n u0 u1 u2 j HQ → Tds tx (s' % 2) s' ys HQ → HQ q = some (.tup [.str tx, .int (s' % 2), .int s']) → OdAt HQ v t →
              Tri cl CK (TT2 PA PC) pen cc B a0 a1 a2 k n u0 u1 u2 j (upd HQ D (.lst (ys ++ [V.ref q]))) ∧ upd HQ D (.lst (ys ++ [V.ref q])) D = some (.lst (ys ++ [V.ref q])) ∧ (ys ++ [V.ref q]).length = i + 1 ∧ Tds tx (s' % 2) s' (ys ++ [V.ref q]) (upd HQ D (.lst (ys ++ [V.ref q]))) ∧ OdAt (upd HQ D (.lst (ys ++ [V.ref q]))) v t :=
            fun {HQ q a u0 u1 u2} e1 TQ tq eq oq => ⟨TQ.put e1 nDp nDc nDB, upd_same, by simp [ly], fun m u eu => by
              have tpk : ∀ {z : Addr} {os : List V}, HQ z = some (.tup os) → upd HQ D (.lst (ys ++ [V.ref q])) z = some (.tup os) := fun {z os} g => by
                rw [upd_ne (fun zz => by rw [zz, e1] at g; cases g)]
                exact g
              rw [List.getElem?_append] at eu
              split at eu
              · obtain ⟨q', r1, r2⟩ := tq m u eu
                exact ⟨q', r1, tpk r2⟩
              · have z0 : m - ys.length = 0 := by
                  cases w0 : m - ys.length with
                  | zero => rfl
                  | succ q => rw [w0] at eu; simp at eu
                rw [z0] at eu
                cases eu
                exact ⟨q, rfl, tpk eq⟩, ext_put e1 oq nvD⟩
          have tdK : ∀ {H1 H2 : Hp} {a : Addr}, Tds tx (s' % 2) s' ys H1 → KeepN a H1 H2 → (∃ C dx fs, H1 a = some (.ins C dx fs)) → Tds tx (s' % 2) s' ys H2 := fun {H1 H2 a} td kn hin m u eu => by
            obtain ⟨C, dx, fs, hi⟩ := hin
            obtain ⟨q, e1, e2⟩ := td m u eu
            exact ⟨q, e1, kn _ _ e2 (fun ps z => by cases z) (fun z => by rw [z, hi] at e2; cases e2)⟩
          have hi3' : i < 3 := hi3
          obtain ⟨rfl, hx⟩ := y
          obtain rfl | rfl | rfl : i = 0 ∨ i = 1 ∨ i = 2 := by omega
          · cases hx
            walk_at "rd"
            refine ⟨rfl, KD.r_yes (iteT ?_)⟩
            walk_at "rd"
            refine ⟨a0, p, n, none, s, v, t, rfl, hn, hs, p0, TI.o0, o, ok, TI.tb, fun HQ q eq o' kn tb' => ?_⟩
            rw [hs', htx] at eq
            rw [hs'] at o'
            have eD' := kn _ _ eD (fun ps z => by cases z) (fun z => by obtain ⟨C, dx, fs, g⟩ := TI.o0.ins; rw [z, g] at eD; cases eD)
            exact ⟨ys, eD', by rw [ly]; decide, _, grow (a := a0) eD' (TI.act0 kn o' tb') (tdK td kn TI.o0.ins) eq (odK o kn TI.o0.ins)⟩
          · cases hx
            walk_at "rd"
            refine ⟨rfl, KD.r_yes (iteT ?_)⟩
            walk_at "rd"
            refine ⟨a1, p, n, some k, s, v, t, rfl, hn, hs, p0, TI.o1, o, ok, TI.tb, fun HQ q eq o' kn tb' => ?_⟩
            rw [hs', htx] at eq
            rw [hs'] at o'
            have eD' := kn _ _ eD (fun ps z => by cases z) (fun z => by obtain ⟨C, dx, fs, g⟩ := TI.o1.ins; rw [z, g] at eD; cases eD)
            exact ⟨ys, eD', by rw [ly]; decide, _, grow (a := a0) eD' (TI.act1 kn o' tb') (tdK td kn TI.o1.ins) eq (odK o kn TI.o1.ins)⟩
          · cases hx
            walk_at "rd"
            refine ⟨rfl, KD.r_yes (iteT ?_)⟩
            walk_at "rd"
            refine ⟨a2, p, n, none, s, v, t, rfl, hn, hs, p0, TI.o2, o, ok, TI.tb, fun HQ q eq o' kn tb' => ?_⟩
            rw [hs', htx] at eq
            rw [hs'] at o'
            have eD' := kn _ _ eD (fun ps z => by cases z) (fun z => by obtain ⟨C, dx, fs, g⟩ := TI.o2.ins; rw [z, g] at eD; cases eD)
            exact ⟨ys, eD', by rw [ly]; decide, _, grow (a := a0) eD' (TI.act2 kn o' tb') (tdK td kn TI.o2.ins) eq (odK o kn TI.o2.ins)⟩
        · replace TI : Tri cl CK (TT2 PA PC) pen cc B a0 a1 a2 k n s' s' s' j HE := TI
          have hs2 : s' ∈ statesOf (wN n) := hs' ▸ st_in hn hs p0
          obtain ⟨z1, z2⟩ := st_small n hn s' hs2
          obtain ⟨q0, q1, q2, rfl⟩ : ∃ q0 q1 q2, ys = [q0, q1, q2] := by
            match ys, ly with
            | [q0, q1, q2], _ => exact ⟨_, _, _, rfl⟩
          obtain ⟨w0, rfl, e0⟩ := td 0 _ rfl
          obtain ⟨w1, rfl, e1⟩ := td 1 _ rfl
          obtain ⟨w2, rfl, e2⟩ := td 2 _ rfl
          have smt : Sm 1300 1 (.tuple [.str tx, .int (s' % 2), .int s']) := htx ▸ sm_told hn hs ok (by omega) (by omega)
          clear td TR od0 hB ly
          have hB := TI.hB
          walk_at "rd"
          refine r_reprS (.tup (SqT.of e0) (.cons (.str _) (.cons (.int _) (.cons (.int _) .nil)))) smt (by decide) (by decide) ?_
          walk_at "rd"
          refine r_reprS (.tup (SqT.of e1) (.cons (.str _) (.cons (.int _) (.cons (.int _) .nil)))) smt (by decide) (by decide) ?_
          walk_at "rd"
          refine r_iteNF rfl ?_
          walk_at "rd"
          refine r_reprS (.tup (SqT.of e0) (.cons (.str _) (.cons (.int _) (.cons (.int _) .nil)))) smt (by decide) (by decide) ?_
          walk_at "rd"
          refine r_reprS (.tup (SqT.of e2) (.cons (.str _) (.cons (.int _) (.cons (.int _) .nil)))) smt (by decide) (by decide) ?_
          walk_at "rd"
          refine r_iteNF rfl ?_
          walk_at "rd"
          refine r_ite2 (fun hp3 => ?_) (fun hp3 => ?_)
          · have hst : s' = s := by rw [← hs']; unfold stA; rw [if_neg (by omega), if_neg (by omega), if_neg (by omega)]
            have htt : tx = (pairD "word" t).shown := by rw [← htx]; unfold txA; rw [if_neg (by omega), if_neg (by omega), if_neg (by omega)]
            walk_at "rd"
            refine ⟨by walk_at "sz", fun c1 n1 => ?_⟩
            walk_at "rd"
            have sc := same_new (o := .lst [.str "word", v]) n1
            refine ⟨c1, "word", v, t, rfl, upd_same, o.same sc, ok.fit, ?_⟩
            walk_at "rd"
            refine r_iteNF (congrArg V.str htt) ?_
            have TJ := TI.up sc
            generalize upd HE c1 (.lst [.str "word", v]) = HF at TJ ⊢
            clear TI eD e0 e1 e2 hB
            have hB := TJ.hB
            walk_at "rd"
            refine r_state17 (fun R z => (by walk_at "rd"; exact z)) TJ.o0 hn ?_
            walk_at "rd"
            refine r_iteNF (by rw [hst]) ?_
            walk_at "rd"
            exact ⟨_, _, _, _, _, _, s', rfl, hs2, TJ.mono (by omega)⟩
          · walk_at "rd"
            exact ⟨_, _, _, _, _, _, s', rfl, hs2, TI.mono (by omega)⟩
      · rintro σ H20 ⟨y6, y7, y8, y9, y10, y11, s, rfl, hs, TR⟩
        clear TX
        walk_at "rd"
        refine ⟨pen, cc, kk + 98 - 3 * r.toNat - 2, rfl, TR.pn.mono (by omega), fun v H21 okv pn21 kp21 => ?_⟩
        have TR2 := TR.draw pn21 kp21
        clear TR pn21 kp21
        obtain ⟨nvp, t, od0, ok⟩ := okv
        walk_at "rd"
        refine ⟨TR2.tb, fun H22 x22 t22 => ?_⟩
        have TR := TR2.ext x22 t22
        replace od0 := od_ext od0 x22
        clear TR2 x22 t22
        refine heard_mk EA2 rfl rfl hn od0 ok fun H23 s23 => ?_
        replace od0 := od0.same s23
        have TR2 := TR.up s23
        clear TR s23
        walk_at "rd"
        refine ⟨by walk_at "sz", fun l nl => ?_⟩
        have sl := same_new (o := .lst [.str (pairD "word" t).shown]) nl
        have nvl : v ≠ .ref l := fun z => by
          subst z
          cases t with
          | sc s => cases s <;> cases od0
          | tup l' => obtain ⟨a', e1, e2⟩ := od0; cases e1; rw [nl] at e2; cases e2
          | lst l' => obtain ⟨a', e1, e2⟩ := od0; cases e1; rw [nl] at e2; cases e2
          | dct l' => obtain ⟨a', e1, e2⟩ := od0; cases e1; rw [nl] at e2; cases e2
        have hl : upd H23 l (.lst [.str (pairD "word" t).shown]) l = some (.lst [.str (pairD "word" t).shown]) := upd_same
        have TR := TR2.up sl
        replace od0 := od0.same sl
        have nlp := TR2.pn.ne nl
        have nlc := TR2.pn.nec nl
        have nlB := (ne_of_none TR2.hB nl).symm
        generalize upd H23 l (.lst [.str (pairD "word" t).shown]) = H24 at hl TR od0 ⊢
        clear TR2 nl sl
        walk_at "rd"
        refine ⟨TR.tb, fun H25 x25 t25 => ?_⟩
        have TR2 := TR.ext x25 t25
        replace od0 := od_ext od0 x25
        replace hl := x25 _ _ hl (fun ps z => by cases z)
        clear TR x25 t25
        refine heard_kb EA2 rfl rfl od0 ok fun H26 s26 => ?_
        replace od0 := od0.same s26
        have TR := TR2.up s26
        replace hl := s26 _ _ hl
        clear TR2 s26
        walk_at "rd"
        refine r_append hl (by walk_at "sz") ?_
        dsimp only [List.cons_append, List.nil_append]
        have TR2 := TR.put (ys := [.str (pairD "word" t).shown, .str (pairD "word" t).shown]) hl nlp nlc nlB
        have hl2 : upd H26 l (.lst [.str (pairD "word" t).shown, .str (pairD "word" t).shown]) l = some (.lst (([(pairD "word" t).shown, (pairD "word" t).shown] : List Str).map V.str)) := upd_same
        have od1 : OdAt (upd H26 l (.lst [.str (pairD "word" t).shown, .str (pairD "word" t).shown])) v t := od0.to fun a' ob ev g => by
          rw [upd_ne (fun z => nvl (by rw [ev, z]))]
          exact g
        generalize upd H26 l (.lst [.str (pairD "word" t).shown, .str (pairD "word" t).shown]) = H27 at hl2 TR2 od1 ⊢
        clear TR hl od0
        walk_at "rd"
        refine ⟨by walk_at "sz", fun c1 n1 => ?_⟩
        walk_at "rd"
        have s1 := same_new (o := .lst [.str "word", v]) n1
        refine ⟨c1, "word", v, t, rfl, upd_same, od1.same s1, ok.fit, ?_⟩
        walk_at "rd"
        refine ⟨by walk_at "sz", fun c2 n2 => ?_⟩
        walk_at "rd"
        have s2 := s1.trans (same_new (o := .lst [.str (pairD "word" t).shown]) n2)
        refine ⟨c2, 2, _, rfl, rfl, upd_same, by decide, by decide, by walk_at "sz", fun c3 n3 => ?_⟩
        rw [show (2 : Int) = ((2 : Nat) : Int) from rfl, KS.rep_map]
        have s3 := s2.trans (same_new (o := .lst ((List.replicate 2 (pairD "word" t).shown).map V.str)) n3)
        have okz : ∀ z ∈ List.replicate 2 (pairD "word" t).shown, PyData.strOk z = true := fun z m => by rw [List.eq_of_mem_replicate m]; exact ok.tw
        refine KS.r_eqStrs (ns := List.replicate 2 (pairD "word" t).shown) (SqL.of (s3 _ _ hl2)) (SqL.of upd_same) okz okz ?_
        rw [decide_eq_true rfl]
        have TR := TR2.up s3
        exact q _ (TR.pn.mono (by omega)) TR.tb
    exact ⟨t', drv.nox, rdg⟩
end
end K10


namespace K10
open PySem L2 KB KO KV KY KR
def spLaw (K : PySem.W.Frag) (cs : List (Addr × Addr)) : Sp := fun vs H Q _ => ∃ (a : Addr) (ns : List Int), vs = [.ref a] ∧ SqL K H a (ns.map V.int) ∧ ns.length ≤ 63 ∧ (∀ p ∈ cs, H p.2 = some (.tbl #[])) ∧ ∀ H', Q (.bl true) H'

section
variable {P : Program} {w : World} {K : PySem.W.Frag} {mg : Str → Option Value} {base : Heap}
theorem f17_of {cl : Nat → Addr} {CK cR : Addr} {n : Nat} (hn : n < 16) (h : Fam P w K mg base cl cR n) : F17 P w K mg base cl CK cR n := by
  have e1 : spRd17 cl CK n = spRd (cl n) (fr n) := if_neg (by omega)
  have e2 : spDe17 cl CK n = spDe (cl n) (gd n) (fdd n) := if_neg (by omega)
  have e3 : spWr017 cl CK n = spWr0 (cl n) (fw n) := if_neg (by omega)
  have e4 : spWr17 cl CK cR n = spWr (cl n) cR (fw n) := if_neg (by omega)
  exact ⟨e1 ▸ h.m_read, e2 ▸ h.m_deed, e3 ▸ h.k_write, e4 ▸ h.m_write, h.p_now, h.p_state⟩
theorem f17_kb {cl : Nat → Addr} {CK cR : Addr} (m_read : CalleeM P w K mg base CX0 5 (cl 16) "read" ["self"] (spKRd (cl 16) CK)) (m_deed : CalleeM P w K mg base CX0 9 (cl 16) "deed" ["self"] (spKDe (cl 16) CK)) (k_write : CalleeMK P w K mg base 4 (cl 16) "write" ["self", "bit"] (spKWr0 (cl 16) CK) 0 ["bit"] (fun us zs => us ++ zs))
    (m_write : CalleeM P w K mg base (L2.CX P w) 4 (cl 16) "write" ["self", "bit"] (spKWr (cl 16) CK cR)) (p_now : KW.OwnP P w K mg base 1 (cl 16) "now" ["self"] (spNow (cl 16))) (p_state : KW.OwnP P w K mg base 1 (cl 16) "state" ["self"] (spState (cl 16))) : F17 P w K mg base cl CK cR 16 :=
  ⟨m_read, m_deed, k_write, m_write, p_now, p_state⟩
theorem f17_all {cl : Nat → Addr} {CK cR : Addr} (FM : ∀ i : Fin 16, Fam P w K mg base cl cR i.val) (kb : F17 P w K mg base cl CK cR 16) : ∀ i : Fin 17, F17 P w K mg base cl CK cR i.val := fun ⟨i, hi⟩ => by
  by_cases h : i = 16
  · subst h
    exact kb
  · exact f17_of (by show i < 16; omega) (FM ⟨i, by omega⟩)
theorem ok_law {f PA PC cA cC : Addr} {fd : FuncData} (F : Fun K "law" "law" s_law f fd) (T : Txt mg)
    (c__law_class_right : KG.CalleeG P w K mg base CX0 14 "_law_class_right" ["_law_pen_here", "_law_number"] (spClass (TT2 PA PC)))
    (c__law_draw : KB.Callee P w K mg base CX0 1 "_law_draw" ["_law_pen_here", "_law_many"] spDraw) (c__law_pen : KB.Callee P w K mg base CX0 1 "_law_pen" ["_law_script"] (spPen K)) : KG.FnG P w K mg base CX0 15 f fd ["_law_script"] (spLaw K [(cA, PA), (cC, PC)]) := by
  refine KG.fun_okG F sc_law (fun vs H Q E h => ?_) (fun cdv A outer s H vs Q E hr fr h => ?_)
  · obtain ⟨a, ns, rfl, _⟩ := h
    rfl
  · obtain ⟨a, ns, rfl, hS, hlen, htab, q⟩ := h
    have T0 : LamX.Tabs (TT2 PA PC) H := fun p hp => by
      rcases List.mem_cons.mp hp with rfl | hp
      · exact LamX.TabS.nil (htab (cA, PA) (List.mem_cons_self ..))
      · rw [List.mem_singleton.mp hp]
        exact LamX.TabS.nil (htab (cC, PC) (List.mem_cons_of_mem _ (List.mem_cons_self ..)))
    refine ⟨_, (pss_cons (ps_set (i := 1) sc_law.nd rfl (by first | exact Or.inl rfl | exact Or.inr rfl) (pe_callC c__law_pen (hr.mono (by decide)) (by rfl) pass0 (pa_cons (pv 0) pa_nil)))
 (pss_cons (ps_for PassesOwn.never rfl (pi_range1 rfl T.z_range (pa_cons pe_int pa_nil)) (pg_name (i := 2) sc_law.nd rfl (by first | exact Or.inl rfl | exact Or.inr rfl))
 (pss_one (ps_if (pt_not (pt_val (KG.pe_callG c__law_class_right fr (hr.mono (by decide)) (by rfl) pass0 (pa_cons (pv 1) (pa_cons (pe_callC c__law_draw (hr.mono (by decide)) (by rfl) pass0 (pa_cons (pv 1) (pa_cons pe_int pa_nil))) pa_nil))))) (pss_one (ps_ret pe_bl))
 pss_nil)))
 (pss_one (ps_ret pe_bl)))), at_start (σ := [some (.ref a), none, none]) rfl ?_⟩
    try dsimp only [cx_K]
    walk_at "rd"
    refine ⟨a, ns, rfl, hS, hlen, fun H1 pen pc s1 n1 n1c pn => ?_⟩
    have T1 := KL.tabs_same T0 s1
    walk_at "rd"
    refine ⟨by decide, by decide, ?_⟩
    refine forW (walk_range (lo := 0) (n := 5)) (fun i σ H' => ∃ y2, σ = [some (.ref a), some (.ref pen), y2] ∧ PenC H' pen pc (2000 - 200 * i) ∧ LamX.Tabs (TT2 PA PC) H') ⟨_, rfl, pn.mono (by omega), T1⟩ (fun _ _ _ _ _ => trivial) ?_ ?_
    · rintro i x σ H2 H2' hi ⟨y2, rfl, pn2, tb2⟩ ⟨rfl, rfl⟩
      have hi5 : i < 5 := hi
      walk_at "rd"
      refine ⟨pen, pc, 16, 2000 - 200 * i - 1, rfl, by decide, by decide, pn2.mono (by omega), fun r H3 r0 r1 pn3 kp3 => ?_⟩
      obtain ⟨xs0, hp0⟩ := pn2.lst
      have tb3 := tabs_keep tb2 kp3 hp0
      obtain ⟨n, rfl⟩ : ∃ n : Nat, r = (n : Int) := ⟨r.toNat, by omega⟩
      walk_at "rd"
      refine ⟨pen, pc, n, 2000 - 200 * i - 101, rfl, by omega, pn3.mono (by omega), tb3, fun H4 pn4 tb4 => ?_⟩
      walk_at "rd"
      exact ⟨_, rfl, pn4.mono (by omega), tb4⟩
    · rintro σ H2 ⟨y2, rfl, pn2, tb2⟩
      walk_at "rd"
      exact q _
end
end K10


namespace K10
open PySem L2 KB KO KV KY KR
abbrev s_I2 : Stmt := inClass (top 4) 0
theorem sqK {K : PySem.W.Frag} {a : Addr} {dd : Option Addr} {its : Array Value} {n : Nat} {sl : Array (Option Value)} {xs : List V} (h : K.lookup a = some ⟨.type "tuple", dd, .seq its n, sl⟩) (hz : its.size ≤ 100) (r : Vals xs its.toList) : ∀ H, SqT K H a xs :=
  fun _ => .inr ⟨_, its, n, h, rfl, rfl, Nat.le_trans hz (by decide), r⟩
theorem vals_rev : ∀ {xs : List V} {us : List Value}, Vals xs us → Vals xs.reverse us.reverse
  | _, _, .nil => .nil
  | _, _, .cons h t => by
    rw [List.reverse_cons, List.reverse_cons]
    exact (vals_rev t).append (.cons h .nil)
theorem free_only {sc : Scope} {x : Str} (h : ∀ z ∈ sc.names, z.2 = .free → z.1 = x) : ∀ y, sc.names.lookup y = some .free → y = x := fun y e => h (y, .free) (PySem.mem_of_lookup e) rfl
theorem code_of {K : PySem.W.Frag} {x : Str} {f c Pt : Addr} {o : PySem.Obj} {fd : FuncData} (h : PySem.W.tabIn K x = some (c, Pt)) (h1 : PySem.W.nsIn K mainGlobals x = some (some (.ref f))) (h2 : K.lookup f = some o) (h3 : o.data = .func fd) : fd.code = .ref c := by
  obtain ⟨o1, o2, o3, o4⟩ := o
  simp only at h3
  subst h3
  unfold PySem.W.tabIn at h
  rw [h1] at h
  dsimp only at h
  rw [h2] at h
  dsimp only at h
  split at h
  · rename_i c' hc
    split at h
    · split at h
      · cases h
        exact hc
      · cases h
    · cases h
  · cases h
def errsOf (e0 e1 e2 e3 e4 e5 : Addr) : Nat → Addr
  | 0 => e0
  | 1 => e1
  | 2 => e2
  | 3 => e3
  | 4 => e4
  | _ => e5
def pick (cs : List Addr) (i : Nat) : Addr := cs.getD i 0
theorem all_mk {l : PySem.W.OpenLaw} {w : World} {K : PySem.W.Frag} {h : Heap} {mg : Str → Option Value} {fa C_Bit C_TakenBit C_ClearedBit C_ZeroClearedBit C_SetBit C_FlippedBit C_OnceBit C_DeafBit C_RaisedBit C_EndedBit C_DriftingBit C_EventBit C_TakenEventBit C_StartBit C_GaugeBit C_SealedBit C_KindBit C_Kind t_Kind_READINGS t_Kind_WRITINGS t_Kind_DEVICES f_is_integer f_need_bit f_Bit___init__ DT_Bit___init__ f_Bit_now p_Bit_now f_Bit_state p_Bit_state f_Bit_read f_Bit_write f_Bit_deed f_ClearedBit_write f_ZeroClearedBit_write f_SetBit_write f_FlippedBit_write f_OnceBit_write f_DeafBit_write f_KindBit_read f_KindBit_write f_KindBit_deed f_Kind___init__ f_Kind_after_read f_Kind_after_write f_Kind_unguarded f_Kind_deeds f_Kind___eq__ f__law_pen f__law_draw f__law_heard f__law_plain_bit f__law_bit f__law_words_of f__law_odd f__law_act f__law_class_right f_law f_TakenBit_read cda_TakenBit_read cc_TakenBit_read f_RaisedBit_deed cda_RaisedBit_deed cc_RaisedBit_deed f_EndedBit_deed cda_EndedBit_deed cc_EndedBit_deed f_KindBit___init__ cda_KindBit___init__ cc_KindBit___init__ DT_KindBit___init__ dM a_m0 a_m1 a_m2 a_m3 N_Kind CB e0 e1 e2 e3 e4 e5 cA PA cC PC cda2 ccell2 fI2 N_E2 : Addr} (X : K.In h) (G : h.Ns mainGlobals mg) (hfa : mg "law" = some (.ref fa))
    {dd_t_Kind_READINGS : Option Addr} {n_t_Kind_READINGS : Nat} {sl_t_Kind_READINGS : Array (Option Value)}
    {k_t_Kind_READINGS_0 k_t_Kind_READINGS_1 : Tok}
    {dd_t_Kind_WRITINGS : Option Addr} {n_t_Kind_WRITINGS : Nat} {sl_t_Kind_WRITINGS : Array (Option Value)}
    {k_t_Kind_WRITINGS_0 k_t_Kind_WRITINGS_1 k_t_Kind_WRITINGS_2 k_t_Kind_WRITINGS_3 k_t_Kind_WRITINGS_4 k_t_Kind_WRITINGS_5 k_t_Kind_WRITINGS_6 : Tok}
    {dd_t_Kind_DEVICES : Option Addr} {n_t_Kind_DEVICES : Nat} {sl_t_Kind_DEVICES : Array (Option Value)}
    {k_t_Kind_DEVICES_0 k_t_Kind_DEVICES_1 k_t_Kind_DEVICES_2 k_t_Kind_DEVICES_3 : Tok}
    {od_is_integer an_is_integer : Option Addr} {sl_is_integer : Array (Option Value)} {oc_is_integer kV_is_integer dc_is_integer pm_is_integer cd_is_integer ct_is_integer : Value}
    {od_need_bit an_need_bit : Option Addr} {sl_need_bit : Array (Option Value)} {oc_need_bit kV_need_bit dc_need_bit pm_need_bit cd_need_bit ct_need_bit : Value}
    {od_Bit___init__ an_Bit___init__ : Option Addr} {sl_Bit___init__ : Array (Option Value)} {oc_Bit___init__ kV_Bit___init__ dc_Bit___init__ pm_Bit___init__ cd_Bit___init__ ct_Bit___init__ : Value}
    {dd_DT_Bit___init__ : Option Addr} {n_DT_Bit___init__ : Nat} {sl_DT_Bit___init__ : Array (Option Value)} {tk_Bit___init___0 : Tok}
    {od_Bit_now an_Bit_now : Option Addr} {sl_Bit_now : Array (Option Value)} {oc_Bit_now kV_Bit_now dc_Bit_now pm_Bit_now cd_Bit_now ct_Bit_now : Value}
    {rs_Bit_now : List Value}
    {od_Bit_state an_Bit_state : Option Addr} {sl_Bit_state : Array (Option Value)} {oc_Bit_state kV_Bit_state dc_Bit_state pm_Bit_state cd_Bit_state ct_Bit_state : Value}
    {rs_Bit_state : List Value}
    {od_Bit_read an_Bit_read : Option Addr} {sl_Bit_read : Array (Option Value)} {oc_Bit_read kV_Bit_read dc_Bit_read pm_Bit_read cd_Bit_read ct_Bit_read : Value}
    {od_Bit_write an_Bit_write : Option Addr} {sl_Bit_write : Array (Option Value)} {oc_Bit_write kV_Bit_write dc_Bit_write pm_Bit_write cd_Bit_write ct_Bit_write : Value}
    {od_Bit_deed an_Bit_deed : Option Addr} {sl_Bit_deed : Array (Option Value)} {oc_Bit_deed kV_Bit_deed dc_Bit_deed pm_Bit_deed cd_Bit_deed ct_Bit_deed : Value}
    {od_ClearedBit_write an_ClearedBit_write : Option Addr} {sl_ClearedBit_write : Array (Option Value)} {oc_ClearedBit_write kV_ClearedBit_write dc_ClearedBit_write pm_ClearedBit_write cd_ClearedBit_write ct_ClearedBit_write : Value}
    {od_ZeroClearedBit_write an_ZeroClearedBit_write : Option Addr} {sl_ZeroClearedBit_write : Array (Option Value)} {oc_ZeroClearedBit_write kV_ZeroClearedBit_write dc_ZeroClearedBit_write pm_ZeroClearedBit_write cd_ZeroClearedBit_write ct_ZeroClearedBit_write : Value}
    {od_SetBit_write an_SetBit_write : Option Addr} {sl_SetBit_write : Array (Option Value)} {oc_SetBit_write kV_SetBit_write dc_SetBit_write pm_SetBit_write cd_SetBit_write ct_SetBit_write : Value}
    {od_FlippedBit_write an_FlippedBit_write : Option Addr} {sl_FlippedBit_write : Array (Option Value)} {oc_FlippedBit_write kV_FlippedBit_write dc_FlippedBit_write pm_FlippedBit_write cd_FlippedBit_write ct_FlippedBit_write : Value}
    {od_OnceBit_write an_OnceBit_write : Option Addr} {sl_OnceBit_write : Array (Option Value)} {oc_OnceBit_write kV_OnceBit_write dc_OnceBit_write pm_OnceBit_write cd_OnceBit_write ct_OnceBit_write : Value}
    {od_DeafBit_write an_DeafBit_write : Option Addr} {sl_DeafBit_write : Array (Option Value)} {oc_DeafBit_write kV_DeafBit_write dc_DeafBit_write pm_DeafBit_write cd_DeafBit_write ct_DeafBit_write : Value}
    {od_KindBit_read an_KindBit_read : Option Addr} {sl_KindBit_read : Array (Option Value)} {oc_KindBit_read kV_KindBit_read dc_KindBit_read pm_KindBit_read cd_KindBit_read ct_KindBit_read : Value}
    {od_KindBit_write an_KindBit_write : Option Addr} {sl_KindBit_write : Array (Option Value)} {oc_KindBit_write kV_KindBit_write dc_KindBit_write pm_KindBit_write cd_KindBit_write ct_KindBit_write : Value}
    {od_KindBit_deed an_KindBit_deed : Option Addr} {sl_KindBit_deed : Array (Option Value)} {oc_KindBit_deed kV_KindBit_deed dc_KindBit_deed pm_KindBit_deed cd_KindBit_deed ct_KindBit_deed : Value}
    {od_Kind___init__ an_Kind___init__ : Option Addr} {sl_Kind___init__ : Array (Option Value)} {oc_Kind___init__ kV_Kind___init__ dc_Kind___init__ pm_Kind___init__ cd_Kind___init__ ct_Kind___init__ : Value}
    {od_Kind_after_read an_Kind_after_read : Option Addr} {sl_Kind_after_read : Array (Option Value)} {oc_Kind_after_read kV_Kind_after_read dc_Kind_after_read pm_Kind_after_read cd_Kind_after_read ct_Kind_after_read : Value}
    {od_Kind_after_write an_Kind_after_write : Option Addr} {sl_Kind_after_write : Array (Option Value)} {oc_Kind_after_write kV_Kind_after_write dc_Kind_after_write pm_Kind_after_write cd_Kind_after_write ct_Kind_after_write : Value}
    {od_Kind_unguarded an_Kind_unguarded : Option Addr} {sl_Kind_unguarded : Array (Option Value)} {oc_Kind_unguarded kV_Kind_unguarded dc_Kind_unguarded pm_Kind_unguarded cd_Kind_unguarded ct_Kind_unguarded : Value}
    {od_Kind_deeds an_Kind_deeds : Option Addr} {sl_Kind_deeds : Array (Option Value)} {oc_Kind_deeds kV_Kind_deeds dc_Kind_deeds pm_Kind_deeds cd_Kind_deeds ct_Kind_deeds : Value}
    {od_Kind___eq__ an_Kind___eq__ : Option Addr} {sl_Kind___eq__ : Array (Option Value)} {oc_Kind___eq__ kV_Kind___eq__ dc_Kind___eq__ pm_Kind___eq__ cd_Kind___eq__ ct_Kind___eq__ : Value}
    {od__law_pen an__law_pen : Option Addr} {sl__law_pen : Array (Option Value)} {oc__law_pen kV__law_pen dc__law_pen pm__law_pen cd__law_pen ct__law_pen : Value}
    {od__law_draw an__law_draw : Option Addr} {sl__law_draw : Array (Option Value)} {oc__law_draw kV__law_draw dc__law_draw pm__law_draw cd__law_draw ct__law_draw : Value}
    {od__law_heard an__law_heard : Option Addr} {sl__law_heard : Array (Option Value)} {oc__law_heard kV__law_heard dc__law_heard pm__law_heard cd__law_heard ct__law_heard : Value}
    {od__law_plain_bit an__law_plain_bit : Option Addr} {sl__law_plain_bit : Array (Option Value)} {oc__law_plain_bit kV__law_plain_bit dc__law_plain_bit pm__law_plain_bit cd__law_plain_bit ct__law_plain_bit : Value}
    {od__law_bit an__law_bit : Option Addr} {sl__law_bit : Array (Option Value)} {oc__law_bit kV__law_bit dc__law_bit pm__law_bit cd__law_bit ct__law_bit : Value}
    {od__law_words_of an__law_words_of : Option Addr} {sl__law_words_of : Array (Option Value)} {oc__law_words_of kV__law_words_of dc__law_words_of pm__law_words_of cd__law_words_of ct__law_words_of : Value}
    {od__law_odd an__law_odd : Option Addr} {sl__law_odd : Array (Option Value)} {oc__law_odd kV__law_odd dc__law_odd pm__law_odd cd__law_odd ct__law_odd : Value}
    {od__law_act an__law_act : Option Addr} {sl__law_act : Array (Option Value)} {oc__law_act kV__law_act dc__law_act pm__law_act cd__law_act ct__law_act : Value}
    {od__law_class_right an__law_class_right : Option Addr} {sl__law_class_right : Array (Option Value)} {oc__law_class_right kV__law_class_right dc__law_class_right pm__law_class_right cd__law_class_right ct__law_class_right : Value}
    {od_law an_law : Option Addr} {sl_law : Array (Option Value)} {oc_law kV_law dc_law pm_law cd_law ct_law : Value}
    {od_TakenBit_read an_TakenBit_read cdd_TakenBit_read cld_TakenBit_read : Option Addr} {sl_TakenBit_read ccs_TakenBit_read csl_TakenBit_read : Array (Option Value)} {oc_TakenBit_read kV_TakenBit_read dc_TakenBit_read pm_TakenBit_read ct_TakenBit_read ccl_TakenBit_read cl_TakenBit_read : Value} {vs_TakenBit_read : Array Value} {file_TakenBit_read : Str} {tf_TakenBit_read : Tok}
    {od_RaisedBit_deed an_RaisedBit_deed cdd_RaisedBit_deed cld_RaisedBit_deed : Option Addr} {sl_RaisedBit_deed ccs_RaisedBit_deed csl_RaisedBit_deed : Array (Option Value)} {oc_RaisedBit_deed kV_RaisedBit_deed dc_RaisedBit_deed pm_RaisedBit_deed ct_RaisedBit_deed ccl_RaisedBit_deed cl_RaisedBit_deed : Value} {vs_RaisedBit_deed : Array Value} {file_RaisedBit_deed : Str} {tf_RaisedBit_deed : Tok}
    {od_EndedBit_deed an_EndedBit_deed cdd_EndedBit_deed cld_EndedBit_deed : Option Addr} {sl_EndedBit_deed ccs_EndedBit_deed csl_EndedBit_deed : Array (Option Value)} {oc_EndedBit_deed kV_EndedBit_deed dc_EndedBit_deed pm_EndedBit_deed ct_EndedBit_deed ccl_EndedBit_deed cl_EndedBit_deed : Value} {vs_EndedBit_deed : Array Value} {file_EndedBit_deed : Str} {tf_EndedBit_deed : Tok}
    {od_KindBit___init__ an_KindBit___init__ cdd_KindBit___init__ cld_KindBit___init__ : Option Addr} {sl_KindBit___init__ ccs_KindBit___init__ csl_KindBit___init__ : Array (Option Value)} {oc_KindBit___init__ kV_KindBit___init__ dc_KindBit___init__ pm_KindBit___init__ ct_KindBit___init__ ccl_KindBit___init__ cl_KindBit___init__ : Value} {vs_KindBit___init__ : Array Value} {file_KindBit___init__ : Str} {tf_KindBit___init__ : Tok}
    {dd_DT_KindBit___init__ : Option Addr} {n_DT_KindBit___init__ : Nat} {sl_DT_KindBit___init__ : Array (Option Value)} {tk_KindBit___init__ : Tok}
    {es_M : Array DictEntry} {n_M : Nat}
    {dd_0 dd_1 dd_2 dd_3 : Option Addr} {q_0 q_1 q_2 q_3 : Nat} {sl_0 sl_1 sl_2 sl_3 : Array (Option Value)} {tk_1 tk_2 tk_3 tk_4 : Tok}
    {nm_K qq_K : Str} {bs_K : List Value} {hd_K : Bool} {sn_K : List Str} {sub_K : List Value} {ab_K : Bool} {col_K : Option Bool} {dd_K : Option Addr} {k0_K k1_K k2_K k3_K k5_K : Option Value} {nid_K : String}
    {o_K o_N : PySem.Obj}
    {o_E2 : PySem.Obj} {nm_E2 qq_E2 : Str} {bs_E2 bm_E2 : List Value} {sn_E2 : List Str} {sub_E2 : List Value} {ab_E2 : Bool} {col_E2 : Option Bool} {dd_E2 : Option Addr} {k0_E2 k1_E2 k2_E2 k3_E2 k5_E2 : Option Value} {od_I2 an_I2 cdd_I2 cld_I2 : Option Addr} {sl_I2 ccs_I2 csl_I2 : Array (Option Value)} {oc_I2 kV_I2 dc_I2 pm_I2 ct_I2 ccl_I2 cl_I2 : Value} {vs_I2 : Array Value} {file_I2 : Str} {tf_I2 : Tok}
    (aC_Bit : PySem.W.nsIn K mainGlobals "Bit" = some (some (.ref C_Bit)))
    (pg_Bit : PySem.W.plainGet K C_Bit Str.empty = true)
    (hd_Bit : PySem.W.hasDictIn K C_Bit = true)
    (po_Bit : PySem.W.plainOver K C_Bit = true)
    (sa_Bit : PySem.W.findIn K (.ref C_Bit) "__setattr__" = some (some (.builtin "object.__setattr__")))
    (mk_Bit : PySem.W.makesIn K C_Bit = true)
    (kc_Bit : PySem.W.keepIn K (.ref C_Bit) = true)
    (n_Bit_held : PySem.W.findIn K (.ref C_Bit) "held" = some none)
    (aC_TakenBit : PySem.W.nsIn K mainGlobals "TakenBit" = some (some (.ref C_TakenBit)))
    (pg_TakenBit : PySem.W.plainGet K C_TakenBit Str.empty = true)
    (hd_TakenBit : PySem.W.hasDictIn K C_TakenBit = true)
    (po_TakenBit : PySem.W.plainOver K C_TakenBit = true)
    (sa_TakenBit : PySem.W.findIn K (.ref C_TakenBit) "__setattr__" = some (some (.builtin "object.__setattr__")))
    (mk_TakenBit : PySem.W.makesIn K C_TakenBit = true)
    (kc_TakenBit : PySem.W.keepIn K (.ref C_TakenBit) = true)
    (n_TakenBit_held : PySem.W.findIn K (.ref C_TakenBit) "held" = some none)
    (aC_ClearedBit : PySem.W.nsIn K mainGlobals "ClearedBit" = some (some (.ref C_ClearedBit)))
    (pg_ClearedBit : PySem.W.plainGet K C_ClearedBit Str.empty = true)
    (hd_ClearedBit : PySem.W.hasDictIn K C_ClearedBit = true)
    (po_ClearedBit : PySem.W.plainOver K C_ClearedBit = true)
    (sa_ClearedBit : PySem.W.findIn K (.ref C_ClearedBit) "__setattr__" = some (some (.builtin "object.__setattr__")))
    (mk_ClearedBit : PySem.W.makesIn K C_ClearedBit = true)
    (kc_ClearedBit : PySem.W.keepIn K (.ref C_ClearedBit) = true)
    (n_ClearedBit_held : PySem.W.findIn K (.ref C_ClearedBit) "held" = some none)
    (aC_ZeroClearedBit : PySem.W.nsIn K mainGlobals "ZeroClearedBit" = some (some (.ref C_ZeroClearedBit)))
    (pg_ZeroClearedBit : PySem.W.plainGet K C_ZeroClearedBit Str.empty = true)
    (hd_ZeroClearedBit : PySem.W.hasDictIn K C_ZeroClearedBit = true)
    (po_ZeroClearedBit : PySem.W.plainOver K C_ZeroClearedBit = true)
    (sa_ZeroClearedBit : PySem.W.findIn K (.ref C_ZeroClearedBit) "__setattr__" = some (some (.builtin "object.__setattr__")))
    (mk_ZeroClearedBit : PySem.W.makesIn K C_ZeroClearedBit = true)
    (kc_ZeroClearedBit : PySem.W.keepIn K (.ref C_ZeroClearedBit) = true)
    (n_ZeroClearedBit_held : PySem.W.findIn K (.ref C_ZeroClearedBit) "held" = some none)
    (aC_SetBit : PySem.W.nsIn K mainGlobals "SetBit" = some (some (.ref C_SetBit)))
    (pg_SetBit : PySem.W.plainGet K C_SetBit Str.empty = true)
    (hd_SetBit : PySem.W.hasDictIn K C_SetBit = true)
    (po_SetBit : PySem.W.plainOver K C_SetBit = true)
    (sa_SetBit : PySem.W.findIn K (.ref C_SetBit) "__setattr__" = some (some (.builtin "object.__setattr__")))
    (mk_SetBit : PySem.W.makesIn K C_SetBit = true)
    (kc_SetBit : PySem.W.keepIn K (.ref C_SetBit) = true)
    (n_SetBit_held : PySem.W.findIn K (.ref C_SetBit) "held" = some none)
    (aC_FlippedBit : PySem.W.nsIn K mainGlobals "FlippedBit" = some (some (.ref C_FlippedBit)))
    (pg_FlippedBit : PySem.W.plainGet K C_FlippedBit Str.empty = true)
    (hd_FlippedBit : PySem.W.hasDictIn K C_FlippedBit = true)
    (po_FlippedBit : PySem.W.plainOver K C_FlippedBit = true)
    (sa_FlippedBit : PySem.W.findIn K (.ref C_FlippedBit) "__setattr__" = some (some (.builtin "object.__setattr__")))
    (mk_FlippedBit : PySem.W.makesIn K C_FlippedBit = true)
    (kc_FlippedBit : PySem.W.keepIn K (.ref C_FlippedBit) = true)
    (n_FlippedBit_held : PySem.W.findIn K (.ref C_FlippedBit) "held" = some none)
    (aC_OnceBit : PySem.W.nsIn K mainGlobals "OnceBit" = some (some (.ref C_OnceBit)))
    (pg_OnceBit : PySem.W.plainGet K C_OnceBit Str.empty = true)
    (hd_OnceBit : PySem.W.hasDictIn K C_OnceBit = true)
    (po_OnceBit : PySem.W.plainOver K C_OnceBit = true)
    (sa_OnceBit : PySem.W.findIn K (.ref C_OnceBit) "__setattr__" = some (some (.builtin "object.__setattr__")))
    (mk_OnceBit : PySem.W.makesIn K C_OnceBit = true)
    (kc_OnceBit : PySem.W.keepIn K (.ref C_OnceBit) = true)
    (n_OnceBit_held : PySem.W.findIn K (.ref C_OnceBit) "held" = some none)
    (aC_DeafBit : PySem.W.nsIn K mainGlobals "DeafBit" = some (some (.ref C_DeafBit)))
    (pg_DeafBit : PySem.W.plainGet K C_DeafBit Str.empty = true)
    (hd_DeafBit : PySem.W.hasDictIn K C_DeafBit = true)
    (po_DeafBit : PySem.W.plainOver K C_DeafBit = true)
    (sa_DeafBit : PySem.W.findIn K (.ref C_DeafBit) "__setattr__" = some (some (.builtin "object.__setattr__")))
    (mk_DeafBit : PySem.W.makesIn K C_DeafBit = true)
    (kc_DeafBit : PySem.W.keepIn K (.ref C_DeafBit) = true)
    (n_DeafBit_held : PySem.W.findIn K (.ref C_DeafBit) "held" = some none)
    (aC_RaisedBit : PySem.W.nsIn K mainGlobals "RaisedBit" = some (some (.ref C_RaisedBit)))
    (pg_RaisedBit : PySem.W.plainGet K C_RaisedBit Str.empty = true)
    (hd_RaisedBit : PySem.W.hasDictIn K C_RaisedBit = true)
    (po_RaisedBit : PySem.W.plainOver K C_RaisedBit = true)
    (sa_RaisedBit : PySem.W.findIn K (.ref C_RaisedBit) "__setattr__" = some (some (.builtin "object.__setattr__")))
    (mk_RaisedBit : PySem.W.makesIn K C_RaisedBit = true)
    (kc_RaisedBit : PySem.W.keepIn K (.ref C_RaisedBit) = true)
    (n_RaisedBit_held : PySem.W.findIn K (.ref C_RaisedBit) "held" = some none)
    (aC_EndedBit : PySem.W.nsIn K mainGlobals "EndedBit" = some (some (.ref C_EndedBit)))
    (pg_EndedBit : PySem.W.plainGet K C_EndedBit Str.empty = true)
    (hd_EndedBit : PySem.W.hasDictIn K C_EndedBit = true)
    (po_EndedBit : PySem.W.plainOver K C_EndedBit = true)
    (sa_EndedBit : PySem.W.findIn K (.ref C_EndedBit) "__setattr__" = some (some (.builtin "object.__setattr__")))
    (mk_EndedBit : PySem.W.makesIn K C_EndedBit = true)
    (kc_EndedBit : PySem.W.keepIn K (.ref C_EndedBit) = true)
    (n_EndedBit_held : PySem.W.findIn K (.ref C_EndedBit) "held" = some none)
    (aC_DriftingBit : PySem.W.nsIn K mainGlobals "DriftingBit" = some (some (.ref C_DriftingBit)))
    (pg_DriftingBit : PySem.W.plainGet K C_DriftingBit Str.empty = true)
    (hd_DriftingBit : PySem.W.hasDictIn K C_DriftingBit = true)
    (po_DriftingBit : PySem.W.plainOver K C_DriftingBit = true)
    (sa_DriftingBit : PySem.W.findIn K (.ref C_DriftingBit) "__setattr__" = some (some (.builtin "object.__setattr__")))
    (mk_DriftingBit : PySem.W.makesIn K C_DriftingBit = true)
    (kc_DriftingBit : PySem.W.keepIn K (.ref C_DriftingBit) = true)
    (n_DriftingBit_held : PySem.W.findIn K (.ref C_DriftingBit) "held" = some none)
    (aC_EventBit : PySem.W.nsIn K mainGlobals "EventBit" = some (some (.ref C_EventBit)))
    (pg_EventBit : PySem.W.plainGet K C_EventBit Str.empty = true)
    (hd_EventBit : PySem.W.hasDictIn K C_EventBit = true)
    (po_EventBit : PySem.W.plainOver K C_EventBit = true)
    (sa_EventBit : PySem.W.findIn K (.ref C_EventBit) "__setattr__" = some (some (.builtin "object.__setattr__")))
    (mk_EventBit : PySem.W.makesIn K C_EventBit = true)
    (kc_EventBit : PySem.W.keepIn K (.ref C_EventBit) = true)
    (n_EventBit_held : PySem.W.findIn K (.ref C_EventBit) "held" = some none)
    (aC_TakenEventBit : PySem.W.nsIn K mainGlobals "TakenEventBit" = some (some (.ref C_TakenEventBit)))
    (pg_TakenEventBit : PySem.W.plainGet K C_TakenEventBit Str.empty = true)
    (hd_TakenEventBit : PySem.W.hasDictIn K C_TakenEventBit = true)
    (po_TakenEventBit : PySem.W.plainOver K C_TakenEventBit = true)
    (sa_TakenEventBit : PySem.W.findIn K (.ref C_TakenEventBit) "__setattr__" = some (some (.builtin "object.__setattr__")))
    (mk_TakenEventBit : PySem.W.makesIn K C_TakenEventBit = true)
    (kc_TakenEventBit : PySem.W.keepIn K (.ref C_TakenEventBit) = true)
    (n_TakenEventBit_held : PySem.W.findIn K (.ref C_TakenEventBit) "held" = some none)
    (aC_StartBit : PySem.W.nsIn K mainGlobals "StartBit" = some (some (.ref C_StartBit)))
    (pg_StartBit : PySem.W.plainGet K C_StartBit Str.empty = true)
    (hd_StartBit : PySem.W.hasDictIn K C_StartBit = true)
    (po_StartBit : PySem.W.plainOver K C_StartBit = true)
    (sa_StartBit : PySem.W.findIn K (.ref C_StartBit) "__setattr__" = some (some (.builtin "object.__setattr__")))
    (mk_StartBit : PySem.W.makesIn K C_StartBit = true)
    (kc_StartBit : PySem.W.keepIn K (.ref C_StartBit) = true)
    (n_StartBit_held : PySem.W.findIn K (.ref C_StartBit) "held" = some none)
    (aC_GaugeBit : PySem.W.nsIn K mainGlobals "GaugeBit" = some (some (.ref C_GaugeBit)))
    (pg_GaugeBit : PySem.W.plainGet K C_GaugeBit Str.empty = true)
    (hd_GaugeBit : PySem.W.hasDictIn K C_GaugeBit = true)
    (po_GaugeBit : PySem.W.plainOver K C_GaugeBit = true)
    (sa_GaugeBit : PySem.W.findIn K (.ref C_GaugeBit) "__setattr__" = some (some (.builtin "object.__setattr__")))
    (mk_GaugeBit : PySem.W.makesIn K C_GaugeBit = true)
    (kc_GaugeBit : PySem.W.keepIn K (.ref C_GaugeBit) = true)
    (n_GaugeBit_held : PySem.W.findIn K (.ref C_GaugeBit) "held" = some none)
    (aC_SealedBit : PySem.W.nsIn K mainGlobals "SealedBit" = some (some (.ref C_SealedBit)))
    (pg_SealedBit : PySem.W.plainGet K C_SealedBit Str.empty = true)
    (hd_SealedBit : PySem.W.hasDictIn K C_SealedBit = true)
    (po_SealedBit : PySem.W.plainOver K C_SealedBit = true)
    (sa_SealedBit : PySem.W.findIn K (.ref C_SealedBit) "__setattr__" = some (some (.builtin "object.__setattr__")))
    (mk_SealedBit : PySem.W.makesIn K C_SealedBit = true)
    (kc_SealedBit : PySem.W.keepIn K (.ref C_SealedBit) = true)
    (n_SealedBit_held : PySem.W.findIn K (.ref C_SealedBit) "held" = some none)
    (aC_KindBit : PySem.W.nsIn K mainGlobals "KindBit" = some (some (.ref C_KindBit)))
    (pg_KindBit : PySem.W.plainGet K C_KindBit Str.empty = true)
    (hd_KindBit : PySem.W.hasDictIn K C_KindBit = true)
    (po_KindBit : PySem.W.plainOver K C_KindBit = true)
    (sa_KindBit : PySem.W.findIn K (.ref C_KindBit) "__setattr__" = some (some (.builtin "object.__setattr__")))
    (mk_KindBit : PySem.W.makesIn K C_KindBit = true)
    (kc_KindBit : PySem.W.keepIn K (.ref C_KindBit) = true)
    (n_KindBit_held : PySem.W.findIn K (.ref C_KindBit) "held" = some none)
    (n_KindBit_kind : PySem.W.findIn K (.ref C_KindBit) "kind" = some none)
    (aC_Kind : PySem.W.nsIn K mainGlobals "Kind" = some (some (.ref C_Kind)))
    (pg_Kind : PySem.W.plainGet K C_Kind Str.empty = true)
    (hd_Kind : PySem.W.hasDictIn K C_Kind = true)
    (po_Kind : PySem.W.plainOver K C_Kind = true)
    (sa_Kind : PySem.W.findIn K (.ref C_Kind) "__setattr__" = some (some (.builtin "object.__setattr__")))
    (mk_Kind : PySem.W.makesIn K C_Kind = true)
    (kc_Kind : PySem.W.keepIn K (.ref C_Kind) = true)
    (n_Kind_reading : PySem.W.findIn K (.ref C_Kind) "reading" = some none)
    (n_Kind_writing : PySem.W.findIn K (.ref C_Kind) "writing" = some none)
    (n_Kind_device : PySem.W.findIn K (.ref C_Kind) "device" = some none)
    (n_Kind_states : PySem.W.findIn K (.ref C_Kind) "states" = some none)
    (rd_Kind : PySem.W.readsIn K C_Kind (.type "type") = true)
    (ga_Kind : PySem.W.specialIn K (.ref C_Kind) "__getattribute__" = some (some (.builtin "type.__getattribute__")))
    (fc_t_Kind_READINGS : PySem.W.findCls K (.ref C_Kind) (.type "type") "READINGS" = some (.val (.ref t_Kind_READINGS)))
    (lk_t_Kind_READINGS : K.lookup t_Kind_READINGS = some ⟨.type "tuple", dd_t_Kind_READINGS, .seq #[.str "keep" k_t_Kind_READINGS_0, .str "take" k_t_Kind_READINGS_1] n_t_Kind_READINGS, sl_t_Kind_READINGS⟩)
    (fc_t_Kind_WRITINGS : PySem.W.findCls K (.ref C_Kind) (.type "type") "WRITINGS" = some (.val (.ref t_Kind_WRITINGS)))
    (lk_t_Kind_WRITINGS : K.lookup t_Kind_WRITINGS = some ⟨.type "tuple", dd_t_Kind_WRITINGS, .seq #[.str "store" k_t_Kind_WRITINGS_0, .str "clear1" k_t_Kind_WRITINGS_1, .str "clear0" k_t_Kind_WRITINGS_2, .str "set1" k_t_Kind_WRITINGS_3, .str "flip1" k_t_Kind_WRITINGS_4, .str "once" k_t_Kind_WRITINGS_5, .str "none" k_t_Kind_WRITINGS_6] n_t_Kind_WRITINGS, sl_t_Kind_WRITINGS⟩)
    (fc_t_Kind_DEVICES : PySem.W.findCls K (.ref C_Kind) (.type "type") "DEVICES" = some (.val (.ref t_Kind_DEVICES)))
    (lk_t_Kind_DEVICES : K.lookup t_Kind_DEVICES = some ⟨.type "tuple", dd_t_Kind_DEVICES, .seq #[.str "still" k_t_Kind_DEVICES_0, .str "raise" k_t_Kind_DEVICES_1, .str "end" k_t_Kind_DEVICES_2, .str "drift" k_t_Kind_DEVICES_3] n_t_Kind_DEVICES, sl_t_Kind_DEVICES⟩)
    (a_is_integer : PySem.W.nsIn K mainGlobals "is_integer" = some (some (.ref f_is_integer)))
    (l_is_integer : K.lookup f_is_integer = some ⟨oc_is_integer, od_is_integer, .func (PySem.W.fnOf "is_integer" "is_integer" (defArgs s_is_integer) (defBody s_is_integer) (defScope s_is_integer) .none kV_is_integer dc_is_integer pm_is_integer an_is_integer cd_is_integer ct_is_integer), sl_is_integer⟩)
    (c_is_integer : PySem.W.codeIn K cd_is_integer "is_integer" = true)
    (k_is_integer : PySem.W.keepIn K (.ref f_is_integer) = true)
    (a_need_bit : PySem.W.nsIn K mainGlobals "need_bit" = some (some (.ref f_need_bit)))
    (l_need_bit : K.lookup f_need_bit = some ⟨oc_need_bit, od_need_bit, .func (PySem.W.fnOf "need_bit" "need_bit" (defArgs s_need_bit) (defBody s_need_bit) (defScope s_need_bit) .none kV_need_bit dc_need_bit pm_need_bit an_need_bit cd_need_bit ct_need_bit), sl_need_bit⟩)
    (c_need_bit : PySem.W.codeIn K cd_need_bit "need_bit" = true)
    (k_need_bit : PySem.W.keepIn K (.ref f_need_bit) = true)
    (a_Bit___init__ : PySem.W.findIn K (.ref C_Bit) "__init__" = some (some (.ref f_Bit___init__)))
    (i_Bit___init__ : PySem.W.isFn K (.ref f_Bit___init__) = true)
    (l_Bit___init__ : K.lookup f_Bit___init__ = some ⟨oc_Bit___init__, od_Bit___init__, .func (PySem.W.fnOf "__init__" "Bit.__init__" (defArgs s_Bit___init__) (defBody s_Bit___init__) (defScope s_Bit___init__) (.ref DT_Bit___init__) kV_Bit___init__ dc_Bit___init__ pm_Bit___init__ an_Bit___init__ cd_Bit___init__ ct_Bit___init__), sl_Bit___init__⟩)
    (dt_Bit___init__ : K.lookup DT_Bit___init__ = some ⟨.type "tuple", dd_DT_Bit___init__, .seq #[.int 0 tk_Bit___init___0] n_DT_Bit___init__, sl_DT_Bit___init__⟩)
    (c_Bit___init__ : PySem.W.codeIn K cd_Bit___init__ "Bit.__init__" = true)
    (k_Bit___init__ : PySem.W.keepIn K (.ref f_Bit___init__) = true)
    (pa_Bit_now : PySem.W.findIn K (.ref C_Bit) "now" = some (some (.ref p_Bit_now)))
    (pb_Bit_now : PySem.W.specialIn K (.ref p_Bit_now) "__get__" = some (some (.builtin "property.__get__")))
    (pc_Bit_now : PySem.W.takesIn K (.ref p_Bit_now) = some true)
    (pd_Bit_now : PySem.W.recIn K p_Bit_now "property" = some (.ref f_Bit_now :: rs_Bit_now))
    (l_Bit_now : K.lookup f_Bit_now = some ⟨oc_Bit_now, od_Bit_now, .func (PySem.W.fnOf "now" "Bit.now" (defArgs s_Bit_now) (defBody s_Bit_now) (defScope s_Bit_now) .none kV_Bit_now dc_Bit_now pm_Bit_now an_Bit_now cd_Bit_now ct_Bit_now), sl_Bit_now⟩)
    (c_Bit_now : PySem.W.codeIn K cd_Bit_now "Bit.now" = true)
    (k_Bit_now : PySem.W.keepIn K (.ref f_Bit_now) = true)
    (pa_Bit_state : PySem.W.findIn K (.ref C_Bit) "state" = some (some (.ref p_Bit_state)))
    (pb_Bit_state : PySem.W.specialIn K (.ref p_Bit_state) "__get__" = some (some (.builtin "property.__get__")))
    (pc_Bit_state : PySem.W.takesIn K (.ref p_Bit_state) = some true)
    (pd_Bit_state : PySem.W.recIn K p_Bit_state "property" = some (.ref f_Bit_state :: rs_Bit_state))
    (l_Bit_state : K.lookup f_Bit_state = some ⟨oc_Bit_state, od_Bit_state, .func (PySem.W.fnOf "state" "Bit.state" (defArgs s_Bit_state) (defBody s_Bit_state) (defScope s_Bit_state) .none kV_Bit_state dc_Bit_state pm_Bit_state an_Bit_state cd_Bit_state ct_Bit_state), sl_Bit_state⟩)
    (c_Bit_state : PySem.W.codeIn K cd_Bit_state "Bit.state" = true)
    (k_Bit_state : PySem.W.keepIn K (.ref f_Bit_state) = true)
    (a_Bit_read : PySem.W.findIn K (.ref C_Bit) "read" = some (some (.ref f_Bit_read)))
    (i_Bit_read : PySem.W.isFn K (.ref f_Bit_read) = true)
    (l_Bit_read : K.lookup f_Bit_read = some ⟨oc_Bit_read, od_Bit_read, .func (PySem.W.fnOf "read" "Bit.read" (defArgs s_Bit_read) (defBody s_Bit_read) (defScope s_Bit_read) .none kV_Bit_read dc_Bit_read pm_Bit_read an_Bit_read cd_Bit_read ct_Bit_read), sl_Bit_read⟩)
    (c_Bit_read : PySem.W.codeIn K cd_Bit_read "Bit.read" = true)
    (k_Bit_read : PySem.W.keepIn K (.ref f_Bit_read) = true)
    (a_Bit_write : PySem.W.findIn K (.ref C_Bit) "write" = some (some (.ref f_Bit_write)))
    (i_Bit_write : PySem.W.isFn K (.ref f_Bit_write) = true)
    (l_Bit_write : K.lookup f_Bit_write = some ⟨oc_Bit_write, od_Bit_write, .func (PySem.W.fnOf "write" "Bit.write" (defArgs s_Bit_write) (defBody s_Bit_write) (defScope s_Bit_write) .none kV_Bit_write dc_Bit_write pm_Bit_write an_Bit_write cd_Bit_write ct_Bit_write), sl_Bit_write⟩)
    (c_Bit_write : PySem.W.codeIn K cd_Bit_write "Bit.write" = true)
    (k_Bit_write : PySem.W.keepIn K (.ref f_Bit_write) = true)
    (a_Bit_deed : PySem.W.findIn K (.ref C_Bit) "deed" = some (some (.ref f_Bit_deed)))
    (i_Bit_deed : PySem.W.isFn K (.ref f_Bit_deed) = true)
    (l_Bit_deed : K.lookup f_Bit_deed = some ⟨oc_Bit_deed, od_Bit_deed, .func (PySem.W.fnOf "deed" "Bit.deed" (defArgs s_Bit_deed) (defBody s_Bit_deed) (defScope s_Bit_deed) .none kV_Bit_deed dc_Bit_deed pm_Bit_deed an_Bit_deed cd_Bit_deed ct_Bit_deed), sl_Bit_deed⟩)
    (c_Bit_deed : PySem.W.codeIn K cd_Bit_deed "Bit.deed" = true)
    (k_Bit_deed : PySem.W.keepIn K (.ref f_Bit_deed) = true)
    (a_ClearedBit_write : PySem.W.findIn K (.ref C_ClearedBit) "write" = some (some (.ref f_ClearedBit_write)))
    (i_ClearedBit_write : PySem.W.isFn K (.ref f_ClearedBit_write) = true)
    (l_ClearedBit_write : K.lookup f_ClearedBit_write = some ⟨oc_ClearedBit_write, od_ClearedBit_write, .func (PySem.W.fnOf "write" "ClearedBit.write" (defArgs s_ClearedBit_write) (defBody s_ClearedBit_write) (defScope s_ClearedBit_write) .none kV_ClearedBit_write dc_ClearedBit_write pm_ClearedBit_write an_ClearedBit_write cd_ClearedBit_write ct_ClearedBit_write), sl_ClearedBit_write⟩)
    (c_ClearedBit_write : PySem.W.codeIn K cd_ClearedBit_write "ClearedBit.write" = true)
    (k_ClearedBit_write : PySem.W.keepIn K (.ref f_ClearedBit_write) = true)
    (a_ZeroClearedBit_write : PySem.W.findIn K (.ref C_ZeroClearedBit) "write" = some (some (.ref f_ZeroClearedBit_write)))
    (i_ZeroClearedBit_write : PySem.W.isFn K (.ref f_ZeroClearedBit_write) = true)
    (l_ZeroClearedBit_write : K.lookup f_ZeroClearedBit_write = some ⟨oc_ZeroClearedBit_write, od_ZeroClearedBit_write, .func (PySem.W.fnOf "write" "ZeroClearedBit.write" (defArgs s_ZeroClearedBit_write) (defBody s_ZeroClearedBit_write) (defScope s_ZeroClearedBit_write) .none kV_ZeroClearedBit_write dc_ZeroClearedBit_write pm_ZeroClearedBit_write an_ZeroClearedBit_write cd_ZeroClearedBit_write ct_ZeroClearedBit_write), sl_ZeroClearedBit_write⟩)
    (c_ZeroClearedBit_write : PySem.W.codeIn K cd_ZeroClearedBit_write "ZeroClearedBit.write" = true)
    (k_ZeroClearedBit_write : PySem.W.keepIn K (.ref f_ZeroClearedBit_write) = true)
    (a_SetBit_write : PySem.W.findIn K (.ref C_SetBit) "write" = some (some (.ref f_SetBit_write)))
    (i_SetBit_write : PySem.W.isFn K (.ref f_SetBit_write) = true)
    (l_SetBit_write : K.lookup f_SetBit_write = some ⟨oc_SetBit_write, od_SetBit_write, .func (PySem.W.fnOf "write" "SetBit.write" (defArgs s_SetBit_write) (defBody s_SetBit_write) (defScope s_SetBit_write) .none kV_SetBit_write dc_SetBit_write pm_SetBit_write an_SetBit_write cd_SetBit_write ct_SetBit_write), sl_SetBit_write⟩)
    (c_SetBit_write : PySem.W.codeIn K cd_SetBit_write "SetBit.write" = true)
    (k_SetBit_write : PySem.W.keepIn K (.ref f_SetBit_write) = true)
    (a_FlippedBit_write : PySem.W.findIn K (.ref C_FlippedBit) "write" = some (some (.ref f_FlippedBit_write)))
    (i_FlippedBit_write : PySem.W.isFn K (.ref f_FlippedBit_write) = true)
    (l_FlippedBit_write : K.lookup f_FlippedBit_write = some ⟨oc_FlippedBit_write, od_FlippedBit_write, .func (PySem.W.fnOf "write" "FlippedBit.write" (defArgs s_FlippedBit_write) (defBody s_FlippedBit_write) (defScope s_FlippedBit_write) .none kV_FlippedBit_write dc_FlippedBit_write pm_FlippedBit_write an_FlippedBit_write cd_FlippedBit_write ct_FlippedBit_write), sl_FlippedBit_write⟩)
    (c_FlippedBit_write : PySem.W.codeIn K cd_FlippedBit_write "FlippedBit.write" = true)
    (k_FlippedBit_write : PySem.W.keepIn K (.ref f_FlippedBit_write) = true)
    (a_OnceBit_write : PySem.W.findIn K (.ref C_OnceBit) "write" = some (some (.ref f_OnceBit_write)))
    (i_OnceBit_write : PySem.W.isFn K (.ref f_OnceBit_write) = true)
    (l_OnceBit_write : K.lookup f_OnceBit_write = some ⟨oc_OnceBit_write, od_OnceBit_write, .func (PySem.W.fnOf "write" "OnceBit.write" (defArgs s_OnceBit_write) (defBody s_OnceBit_write) (defScope s_OnceBit_write) .none kV_OnceBit_write dc_OnceBit_write pm_OnceBit_write an_OnceBit_write cd_OnceBit_write ct_OnceBit_write), sl_OnceBit_write⟩)
    (c_OnceBit_write : PySem.W.codeIn K cd_OnceBit_write "OnceBit.write" = true)
    (k_OnceBit_write : PySem.W.keepIn K (.ref f_OnceBit_write) = true)
    (a_DeafBit_write : PySem.W.findIn K (.ref C_DeafBit) "write" = some (some (.ref f_DeafBit_write)))
    (i_DeafBit_write : PySem.W.isFn K (.ref f_DeafBit_write) = true)
    (l_DeafBit_write : K.lookup f_DeafBit_write = some ⟨oc_DeafBit_write, od_DeafBit_write, .func (PySem.W.fnOf "write" "DeafBit.write" (defArgs s_DeafBit_write) (defBody s_DeafBit_write) (defScope s_DeafBit_write) .none kV_DeafBit_write dc_DeafBit_write pm_DeafBit_write an_DeafBit_write cd_DeafBit_write ct_DeafBit_write), sl_DeafBit_write⟩)
    (c_DeafBit_write : PySem.W.codeIn K cd_DeafBit_write "DeafBit.write" = true)
    (k_DeafBit_write : PySem.W.keepIn K (.ref f_DeafBit_write) = true)
    (a_KindBit_read : PySem.W.findIn K (.ref C_KindBit) "read" = some (some (.ref f_KindBit_read)))
    (i_KindBit_read : PySem.W.isFn K (.ref f_KindBit_read) = true)
    (l_KindBit_read : K.lookup f_KindBit_read = some ⟨oc_KindBit_read, od_KindBit_read, .func (PySem.W.fnOf "read" "KindBit.read" (defArgs s_KindBit_read) (defBody s_KindBit_read) (defScope s_KindBit_read) .none kV_KindBit_read dc_KindBit_read pm_KindBit_read an_KindBit_read cd_KindBit_read ct_KindBit_read), sl_KindBit_read⟩)
    (c_KindBit_read : PySem.W.codeIn K cd_KindBit_read "KindBit.read" = true)
    (k_KindBit_read : PySem.W.keepIn K (.ref f_KindBit_read) = true)
    (a_KindBit_write : PySem.W.findIn K (.ref C_KindBit) "write" = some (some (.ref f_KindBit_write)))
    (i_KindBit_write : PySem.W.isFn K (.ref f_KindBit_write) = true)
    (l_KindBit_write : K.lookup f_KindBit_write = some ⟨oc_KindBit_write, od_KindBit_write, .func (PySem.W.fnOf "write" "KindBit.write" (defArgs s_KindBit_write) (defBody s_KindBit_write) (defScope s_KindBit_write) .none kV_KindBit_write dc_KindBit_write pm_KindBit_write an_KindBit_write cd_KindBit_write ct_KindBit_write), sl_KindBit_write⟩)
    (c_KindBit_write : PySem.W.codeIn K cd_KindBit_write "KindBit.write" = true)
    (k_KindBit_write : PySem.W.keepIn K (.ref f_KindBit_write) = true)
    (a_KindBit_deed : PySem.W.findIn K (.ref C_KindBit) "deed" = some (some (.ref f_KindBit_deed)))
    (i_KindBit_deed : PySem.W.isFn K (.ref f_KindBit_deed) = true)
    (l_KindBit_deed : K.lookup f_KindBit_deed = some ⟨oc_KindBit_deed, od_KindBit_deed, .func (PySem.W.fnOf "deed" "KindBit.deed" (defArgs s_KindBit_deed) (defBody s_KindBit_deed) (defScope s_KindBit_deed) .none kV_KindBit_deed dc_KindBit_deed pm_KindBit_deed an_KindBit_deed cd_KindBit_deed ct_KindBit_deed), sl_KindBit_deed⟩)
    (c_KindBit_deed : PySem.W.codeIn K cd_KindBit_deed "KindBit.deed" = true)
    (k_KindBit_deed : PySem.W.keepIn K (.ref f_KindBit_deed) = true)
    (a_Kind___init__ : PySem.W.findIn K (.ref C_Kind) "__init__" = some (some (.ref f_Kind___init__)))
    (i_Kind___init__ : PySem.W.isFn K (.ref f_Kind___init__) = true)
    (l_Kind___init__ : K.lookup f_Kind___init__ = some ⟨oc_Kind___init__, od_Kind___init__, .func (PySem.W.fnOf "__init__" "Kind.__init__" (defArgs s_Kind___init__) (defBody s_Kind___init__) (defScope s_Kind___init__) .none kV_Kind___init__ dc_Kind___init__ pm_Kind___init__ an_Kind___init__ cd_Kind___init__ ct_Kind___init__), sl_Kind___init__⟩)
    (c_Kind___init__ : PySem.W.codeIn K cd_Kind___init__ "Kind.__init__" = true)
    (k_Kind___init__ : PySem.W.keepIn K (.ref f_Kind___init__) = true)
    (a_Kind_after_read : PySem.W.findIn K (.ref C_Kind) "after_read" = some (some (.ref f_Kind_after_read)))
    (i_Kind_after_read : PySem.W.isFn K (.ref f_Kind_after_read) = true)
    (l_Kind_after_read : K.lookup f_Kind_after_read = some ⟨oc_Kind_after_read, od_Kind_after_read, .func (PySem.W.fnOf "after_read" "Kind.after_read" (defArgs s_Kind_after_read) (defBody s_Kind_after_read) (defScope s_Kind_after_read) .none kV_Kind_after_read dc_Kind_after_read pm_Kind_after_read an_Kind_after_read cd_Kind_after_read ct_Kind_after_read), sl_Kind_after_read⟩)
    (c_Kind_after_read : PySem.W.codeIn K cd_Kind_after_read "Kind.after_read" = true)
    (k_Kind_after_read : PySem.W.keepIn K (.ref f_Kind_after_read) = true)
    (a_Kind_after_write : PySem.W.findIn K (.ref C_Kind) "after_write" = some (some (.ref f_Kind_after_write)))
    (i_Kind_after_write : PySem.W.isFn K (.ref f_Kind_after_write) = true)
    (l_Kind_after_write : K.lookup f_Kind_after_write = some ⟨oc_Kind_after_write, od_Kind_after_write, .func (PySem.W.fnOf "after_write" "Kind.after_write" (defArgs s_Kind_after_write) (defBody s_Kind_after_write) (defScope s_Kind_after_write) .none kV_Kind_after_write dc_Kind_after_write pm_Kind_after_write an_Kind_after_write cd_Kind_after_write ct_Kind_after_write), sl_Kind_after_write⟩)
    (c_Kind_after_write : PySem.W.codeIn K cd_Kind_after_write "Kind.after_write" = true)
    (k_Kind_after_write : PySem.W.keepIn K (.ref f_Kind_after_write) = true)
    (a_Kind_unguarded : PySem.W.findIn K (.ref C_Kind) "unguarded" = some (some (.ref f_Kind_unguarded)))
    (i_Kind_unguarded : PySem.W.isFn K (.ref f_Kind_unguarded) = true)
    (l_Kind_unguarded : K.lookup f_Kind_unguarded = some ⟨oc_Kind_unguarded, od_Kind_unguarded, .func (PySem.W.fnOf "unguarded" "Kind.unguarded" (defArgs s_Kind_unguarded) (defBody s_Kind_unguarded) (defScope s_Kind_unguarded) .none kV_Kind_unguarded dc_Kind_unguarded pm_Kind_unguarded an_Kind_unguarded cd_Kind_unguarded ct_Kind_unguarded), sl_Kind_unguarded⟩)
    (c_Kind_unguarded : PySem.W.codeIn K cd_Kind_unguarded "Kind.unguarded" = true)
    (k_Kind_unguarded : PySem.W.keepIn K (.ref f_Kind_unguarded) = true)
    (a_Kind_deeds : PySem.W.findIn K (.ref C_Kind) "deeds" = some (some (.ref f_Kind_deeds)))
    (i_Kind_deeds : PySem.W.isFn K (.ref f_Kind_deeds) = true)
    (l_Kind_deeds : K.lookup f_Kind_deeds = some ⟨oc_Kind_deeds, od_Kind_deeds, .func (PySem.W.fnOf "deeds" "Kind.deeds" (defArgs s_Kind_deeds) (defBody s_Kind_deeds) (defScope s_Kind_deeds) .none kV_Kind_deeds dc_Kind_deeds pm_Kind_deeds an_Kind_deeds cd_Kind_deeds ct_Kind_deeds), sl_Kind_deeds⟩)
    (c_Kind_deeds : PySem.W.codeIn K cd_Kind_deeds "Kind.deeds" = true)
    (k_Kind_deeds : PySem.W.keepIn K (.ref f_Kind_deeds) = true)
    (a_Kind___eq__ : PySem.W.findIn K (.ref C_Kind) "__eq__" = some (some (.ref f_Kind___eq__)))
    (i_Kind___eq__ : PySem.W.isFn K (.ref f_Kind___eq__) = true)
    (l_Kind___eq__ : K.lookup f_Kind___eq__ = some ⟨oc_Kind___eq__, od_Kind___eq__, .func (PySem.W.fnOf "__eq__" "Kind.__eq__" (defArgs s_Kind___eq__) (defBody s_Kind___eq__) (defScope s_Kind___eq__) .none kV_Kind___eq__ dc_Kind___eq__ pm_Kind___eq__ an_Kind___eq__ cd_Kind___eq__ ct_Kind___eq__), sl_Kind___eq__⟩)
    (c_Kind___eq__ : PySem.W.codeIn K cd_Kind___eq__ "Kind.__eq__" = true)
    (k_Kind___eq__ : PySem.W.keepIn K (.ref f_Kind___eq__) = true)
    (a__law_pen : PySem.W.nsIn K mainGlobals "_law_pen" = some (some (.ref f__law_pen)))
    (l__law_pen : K.lookup f__law_pen = some ⟨oc__law_pen, od__law_pen, .func (PySem.W.fnOf "_law_pen" "_law_pen" (defArgs s__law_pen) (defBody s__law_pen) (defScope s__law_pen) .none kV__law_pen dc__law_pen pm__law_pen an__law_pen cd__law_pen ct__law_pen), sl__law_pen⟩)
    (c__law_pen : PySem.W.codeIn K cd__law_pen "_law_pen" = true)
    (k__law_pen : PySem.W.keepIn K (.ref f__law_pen) = true)
    (a__law_draw : PySem.W.nsIn K mainGlobals "_law_draw" = some (some (.ref f__law_draw)))
    (l__law_draw : K.lookup f__law_draw = some ⟨oc__law_draw, od__law_draw, .func (PySem.W.fnOf "_law_draw" "_law_draw" (defArgs s__law_draw) (defBody s__law_draw) (defScope s__law_draw) .none kV__law_draw dc__law_draw pm__law_draw an__law_draw cd__law_draw ct__law_draw), sl__law_draw⟩)
    (c__law_draw : PySem.W.codeIn K cd__law_draw "_law_draw" = true)
    (k__law_draw : PySem.W.keepIn K (.ref f__law_draw) = true)
    (a__law_heard : PySem.W.nsIn K mainGlobals "_law_heard" = some (some (.ref f__law_heard)))
    (l__law_heard : K.lookup f__law_heard = some ⟨oc__law_heard, od__law_heard, .func (PySem.W.fnOf "_law_heard" "_law_heard" (defArgs s__law_heard) (defBody s__law_heard) (defScope s__law_heard) .none kV__law_heard dc__law_heard pm__law_heard an__law_heard cd__law_heard ct__law_heard), sl__law_heard⟩)
    (c__law_heard : PySem.W.codeIn K cd__law_heard "_law_heard" = true)
    (k__law_heard : PySem.W.keepIn K (.ref f__law_heard) = true)
    (a__law_plain_bit : PySem.W.nsIn K mainGlobals "_law_plain_bit" = some (some (.ref f__law_plain_bit)))
    (l__law_plain_bit : K.lookup f__law_plain_bit = some ⟨oc__law_plain_bit, od__law_plain_bit, .func (PySem.W.fnOf "_law_plain_bit" "_law_plain_bit" (defArgs s__law_plain_bit) (defBody s__law_plain_bit) (defScope s__law_plain_bit) .none kV__law_plain_bit dc__law_plain_bit pm__law_plain_bit an__law_plain_bit cd__law_plain_bit ct__law_plain_bit), sl__law_plain_bit⟩)
    (c__law_plain_bit : PySem.W.codeIn K cd__law_plain_bit "_law_plain_bit" = true)
    (k__law_plain_bit : PySem.W.keepIn K (.ref f__law_plain_bit) = true)
    (a__law_bit : PySem.W.nsIn K mainGlobals "_law_bit" = some (some (.ref f__law_bit)))
    (l__law_bit : K.lookup f__law_bit = some ⟨oc__law_bit, od__law_bit, .func (PySem.W.fnOf "_law_bit" "_law_bit" (defArgs s__law_bit) (defBody s__law_bit) (defScope s__law_bit) .none kV__law_bit dc__law_bit pm__law_bit an__law_bit cd__law_bit ct__law_bit), sl__law_bit⟩)
    (c__law_bit : PySem.W.codeIn K cd__law_bit "_law_bit" = true)
    (k__law_bit : PySem.W.keepIn K (.ref f__law_bit) = true)
    (a__law_words_of : PySem.W.nsIn K mainGlobals "_law_words_of" = some (some (.ref f__law_words_of)))
    (l__law_words_of : K.lookup f__law_words_of = some ⟨oc__law_words_of, od__law_words_of, .func (PySem.W.fnOf "_law_words_of" "_law_words_of" (defArgs s__law_words_of) (defBody s__law_words_of) (defScope s__law_words_of) .none kV__law_words_of dc__law_words_of pm__law_words_of an__law_words_of cd__law_words_of ct__law_words_of), sl__law_words_of⟩)
    (c__law_words_of : PySem.W.codeIn K cd__law_words_of "_law_words_of" = true)
    (k__law_words_of : PySem.W.keepIn K (.ref f__law_words_of) = true)
    (a__law_odd : PySem.W.nsIn K mainGlobals "_law_odd" = some (some (.ref f__law_odd)))
    (l__law_odd : K.lookup f__law_odd = some ⟨oc__law_odd, od__law_odd, .func (PySem.W.fnOf "_law_odd" "_law_odd" (defArgs s__law_odd) (defBody s__law_odd) (defScope s__law_odd) .none kV__law_odd dc__law_odd pm__law_odd an__law_odd cd__law_odd ct__law_odd), sl__law_odd⟩)
    (c__law_odd : PySem.W.codeIn K cd__law_odd "_law_odd" = true)
    (k__law_odd : PySem.W.keepIn K (.ref f__law_odd) = true)
    (a__law_act : PySem.W.nsIn K mainGlobals "_law_act" = some (some (.ref f__law_act)))
    (l__law_act : K.lookup f__law_act = some ⟨oc__law_act, od__law_act, .func (PySem.W.fnOf "_law_act" "_law_act" (defArgs s__law_act) (defBody s__law_act) (defScope s__law_act) .none kV__law_act dc__law_act pm__law_act an__law_act cd__law_act ct__law_act), sl__law_act⟩)
    (c__law_act : PySem.W.codeIn K cd__law_act "_law_act" = true)
    (k__law_act : PySem.W.keepIn K (.ref f__law_act) = true)
    (a__law_class_right : PySem.W.nsIn K mainGlobals "_law_class_right" = some (some (.ref f__law_class_right)))
    (l__law_class_right : K.lookup f__law_class_right = some ⟨oc__law_class_right, od__law_class_right, .func (PySem.W.fnOf "_law_class_right" "_law_class_right" (defArgs s__law_class_right) (defBody s__law_class_right) (defScope s__law_class_right) .none kV__law_class_right dc__law_class_right pm__law_class_right an__law_class_right cd__law_class_right ct__law_class_right), sl__law_class_right⟩)
    (c__law_class_right : PySem.W.codeIn K cd__law_class_right "_law_class_right" = true)
    (k__law_class_right : PySem.W.keepIn K (.ref f__law_class_right) = true)
    (a_law : PySem.W.nsIn K mainGlobals "law" = some (some (.ref f_law)))
    (l_law : K.lookup f_law = some ⟨oc_law, od_law, .func (PySem.W.fnOf "law" "law" (defArgs s_law) (defBody s_law) (defScope s_law) .none kV_law dc_law pm_law an_law cd_law ct_law), sl_law⟩)
    (c_law : PySem.W.codeIn K cd_law "law" = true)
    (k_law : PySem.W.keepIn K (.ref f_law) = true)
    (in_0 : PySem.W.findIn K (.ref C_Bit) "__init__" = some (some (.ref f_Bit___init__)))
    (nw_0 : PySem.W.findIn K (.ref C_Bit) "now" = some (some (.ref p_Bit_now)))
    (st_0 : PySem.W.findIn K (.ref C_Bit) "state" = some (some (.ref p_Bit_state)))
    (rd_0 : PySem.W.findIn K (.ref C_Bit) "read" = some (some (.ref f_Bit_read)))
    (wr_0 : PySem.W.findIn K (.ref C_Bit) "write" = some (some (.ref f_Bit_write)))
    (de_0 : PySem.W.findIn K (.ref C_Bit) "deed" = some (some (.ref f_Bit_deed)))
    (in_1 : PySem.W.findIn K (.ref C_TakenBit) "__init__" = some (some (.ref f_Bit___init__)))
    (nw_1 : PySem.W.findIn K (.ref C_TakenBit) "now" = some (some (.ref p_Bit_now)))
    (st_1 : PySem.W.findIn K (.ref C_TakenBit) "state" = some (some (.ref p_Bit_state)))
    (rd_1 : PySem.W.findIn K (.ref C_TakenBit) "read" = some (some (.ref f_TakenBit_read)))
    (wr_1 : PySem.W.findIn K (.ref C_TakenBit) "write" = some (some (.ref f_Bit_write)))
    (de_1 : PySem.W.findIn K (.ref C_TakenBit) "deed" = some (some (.ref f_Bit_deed)))
    (in_2 : PySem.W.findIn K (.ref C_ClearedBit) "__init__" = some (some (.ref f_Bit___init__)))
    (nw_2 : PySem.W.findIn K (.ref C_ClearedBit) "now" = some (some (.ref p_Bit_now)))
    (st_2 : PySem.W.findIn K (.ref C_ClearedBit) "state" = some (some (.ref p_Bit_state)))
    (rd_2 : PySem.W.findIn K (.ref C_ClearedBit) "read" = some (some (.ref f_Bit_read)))
    (wr_2 : PySem.W.findIn K (.ref C_ClearedBit) "write" = some (some (.ref f_ClearedBit_write)))
    (de_2 : PySem.W.findIn K (.ref C_ClearedBit) "deed" = some (some (.ref f_Bit_deed)))
    (in_3 : PySem.W.findIn K (.ref C_ZeroClearedBit) "__init__" = some (some (.ref f_Bit___init__)))
    (nw_3 : PySem.W.findIn K (.ref C_ZeroClearedBit) "now" = some (some (.ref p_Bit_now)))
    (st_3 : PySem.W.findIn K (.ref C_ZeroClearedBit) "state" = some (some (.ref p_Bit_state)))
    (rd_3 : PySem.W.findIn K (.ref C_ZeroClearedBit) "read" = some (some (.ref f_Bit_read)))
    (wr_3 : PySem.W.findIn K (.ref C_ZeroClearedBit) "write" = some (some (.ref f_ZeroClearedBit_write)))
    (de_3 : PySem.W.findIn K (.ref C_ZeroClearedBit) "deed" = some (some (.ref f_Bit_deed)))
    (in_4 : PySem.W.findIn K (.ref C_SetBit) "__init__" = some (some (.ref f_Bit___init__)))
    (nw_4 : PySem.W.findIn K (.ref C_SetBit) "now" = some (some (.ref p_Bit_now)))
    (st_4 : PySem.W.findIn K (.ref C_SetBit) "state" = some (some (.ref p_Bit_state)))
    (rd_4 : PySem.W.findIn K (.ref C_SetBit) "read" = some (some (.ref f_Bit_read)))
    (wr_4 : PySem.W.findIn K (.ref C_SetBit) "write" = some (some (.ref f_SetBit_write)))
    (de_4 : PySem.W.findIn K (.ref C_SetBit) "deed" = some (some (.ref f_Bit_deed)))
    (in_5 : PySem.W.findIn K (.ref C_FlippedBit) "__init__" = some (some (.ref f_Bit___init__)))
    (nw_5 : PySem.W.findIn K (.ref C_FlippedBit) "now" = some (some (.ref p_Bit_now)))
    (st_5 : PySem.W.findIn K (.ref C_FlippedBit) "state" = some (some (.ref p_Bit_state)))
    (rd_5 : PySem.W.findIn K (.ref C_FlippedBit) "read" = some (some (.ref f_Bit_read)))
    (wr_5 : PySem.W.findIn K (.ref C_FlippedBit) "write" = some (some (.ref f_FlippedBit_write)))
    (de_5 : PySem.W.findIn K (.ref C_FlippedBit) "deed" = some (some (.ref f_Bit_deed)))
    (in_6 : PySem.W.findIn K (.ref C_OnceBit) "__init__" = some (some (.ref f_Bit___init__)))
    (nw_6 : PySem.W.findIn K (.ref C_OnceBit) "now" = some (some (.ref p_Bit_now)))
    (st_6 : PySem.W.findIn K (.ref C_OnceBit) "state" = some (some (.ref p_Bit_state)))
    (rd_6 : PySem.W.findIn K (.ref C_OnceBit) "read" = some (some (.ref f_Bit_read)))
    (wr_6 : PySem.W.findIn K (.ref C_OnceBit) "write" = some (some (.ref f_OnceBit_write)))
    (de_6 : PySem.W.findIn K (.ref C_OnceBit) "deed" = some (some (.ref f_Bit_deed)))
    (in_7 : PySem.W.findIn K (.ref C_DeafBit) "__init__" = some (some (.ref f_Bit___init__)))
    (nw_7 : PySem.W.findIn K (.ref C_DeafBit) "now" = some (some (.ref p_Bit_now)))
    (st_7 : PySem.W.findIn K (.ref C_DeafBit) "state" = some (some (.ref p_Bit_state)))
    (rd_7 : PySem.W.findIn K (.ref C_DeafBit) "read" = some (some (.ref f_Bit_read)))
    (wr_7 : PySem.W.findIn K (.ref C_DeafBit) "write" = some (some (.ref f_DeafBit_write)))
    (de_7 : PySem.W.findIn K (.ref C_DeafBit) "deed" = some (some (.ref f_Bit_deed)))
    (in_8 : PySem.W.findIn K (.ref C_RaisedBit) "__init__" = some (some (.ref f_Bit___init__)))
    (nw_8 : PySem.W.findIn K (.ref C_RaisedBit) "now" = some (some (.ref p_Bit_now)))
    (st_8 : PySem.W.findIn K (.ref C_RaisedBit) "state" = some (some (.ref p_Bit_state)))
    (rd_8 : PySem.W.findIn K (.ref C_RaisedBit) "read" = some (some (.ref f_Bit_read)))
    (wr_8 : PySem.W.findIn K (.ref C_RaisedBit) "write" = some (some (.ref f_Bit_write)))
    (de_8 : PySem.W.findIn K (.ref C_RaisedBit) "deed" = some (some (.ref f_RaisedBit_deed)))
    (in_9 : PySem.W.findIn K (.ref C_EndedBit) "__init__" = some (some (.ref f_Bit___init__)))
    (nw_9 : PySem.W.findIn K (.ref C_EndedBit) "now" = some (some (.ref p_Bit_now)))
    (st_9 : PySem.W.findIn K (.ref C_EndedBit) "state" = some (some (.ref p_Bit_state)))
    (rd_9 : PySem.W.findIn K (.ref C_EndedBit) "read" = some (some (.ref f_Bit_read)))
    (wr_9 : PySem.W.findIn K (.ref C_EndedBit) "write" = some (some (.ref f_Bit_write)))
    (de_9 : PySem.W.findIn K (.ref C_EndedBit) "deed" = some (some (.ref f_EndedBit_deed)))
    (in_10 : PySem.W.findIn K (.ref C_DriftingBit) "__init__" = some (some (.ref f_Bit___init__)))
    (nw_10 : PySem.W.findIn K (.ref C_DriftingBit) "now" = some (some (.ref p_Bit_now)))
    (st_10 : PySem.W.findIn K (.ref C_DriftingBit) "state" = some (some (.ref p_Bit_state)))
    (rd_10 : PySem.W.findIn K (.ref C_DriftingBit) "read" = some (some (.ref f_Bit_read)))
    (wr_10 : PySem.W.findIn K (.ref C_DriftingBit) "write" = some (some (.ref f_Bit_write)))
    (de_10 : PySem.W.findIn K (.ref C_DriftingBit) "deed" = some (some (.ref f_RaisedBit_deed)))
    (in_11 : PySem.W.findIn K (.ref C_EventBit) "__init__" = some (some (.ref f_Bit___init__)))
    (nw_11 : PySem.W.findIn K (.ref C_EventBit) "now" = some (some (.ref p_Bit_now)))
    (st_11 : PySem.W.findIn K (.ref C_EventBit) "state" = some (some (.ref p_Bit_state)))
    (rd_11 : PySem.W.findIn K (.ref C_EventBit) "read" = some (some (.ref f_Bit_read)))
    (wr_11 : PySem.W.findIn K (.ref C_EventBit) "write" = some (some (.ref f_ClearedBit_write)))
    (de_11 : PySem.W.findIn K (.ref C_EventBit) "deed" = some (some (.ref f_RaisedBit_deed)))
    (in_12 : PySem.W.findIn K (.ref C_TakenEventBit) "__init__" = some (some (.ref f_Bit___init__)))
    (nw_12 : PySem.W.findIn K (.ref C_TakenEventBit) "now" = some (some (.ref p_Bit_now)))
    (st_12 : PySem.W.findIn K (.ref C_TakenEventBit) "state" = some (some (.ref p_Bit_state)))
    (rd_12 : PySem.W.findIn K (.ref C_TakenEventBit) "read" = some (some (.ref f_TakenBit_read)))
    (wr_12 : PySem.W.findIn K (.ref C_TakenEventBit) "write" = some (some (.ref f_DeafBit_write)))
    (de_12 : PySem.W.findIn K (.ref C_TakenEventBit) "deed" = some (some (.ref f_RaisedBit_deed)))
    (in_13 : PySem.W.findIn K (.ref C_StartBit) "__init__" = some (some (.ref f_Bit___init__)))
    (nw_13 : PySem.W.findIn K (.ref C_StartBit) "now" = some (some (.ref p_Bit_now)))
    (st_13 : PySem.W.findIn K (.ref C_StartBit) "state" = some (some (.ref p_Bit_state)))
    (rd_13 : PySem.W.findIn K (.ref C_StartBit) "read" = some (some (.ref f_Bit_read)))
    (wr_13 : PySem.W.findIn K (.ref C_StartBit) "write" = some (some (.ref f_SetBit_write)))
    (de_13 : PySem.W.findIn K (.ref C_StartBit) "deed" = some (some (.ref f_EndedBit_deed)))
    (in_14 : PySem.W.findIn K (.ref C_GaugeBit) "__init__" = some (some (.ref f_Bit___init__)))
    (nw_14 : PySem.W.findIn K (.ref C_GaugeBit) "now" = some (some (.ref p_Bit_now)))
    (st_14 : PySem.W.findIn K (.ref C_GaugeBit) "state" = some (some (.ref p_Bit_state)))
    (rd_14 : PySem.W.findIn K (.ref C_GaugeBit) "read" = some (some (.ref f_Bit_read)))
    (wr_14 : PySem.W.findIn K (.ref C_GaugeBit) "write" = some (some (.ref f_DeafBit_write)))
    (de_14 : PySem.W.findIn K (.ref C_GaugeBit) "deed" = some (some (.ref f_RaisedBit_deed)))
    (in_15 : PySem.W.findIn K (.ref C_SealedBit) "__init__" = some (some (.ref f_Bit___init__)))
    (nw_15 : PySem.W.findIn K (.ref C_SealedBit) "now" = some (some (.ref p_Bit_now)))
    (st_15 : PySem.W.findIn K (.ref C_SealedBit) "state" = some (some (.ref p_Bit_state)))
    (rd_15 : PySem.W.findIn K (.ref C_SealedBit) "read" = some (some (.ref f_TakenBit_read)))
    (wr_15 : PySem.W.findIn K (.ref C_SealedBit) "write" = some (some (.ref f_OnceBit_write)))
    (de_15 : PySem.W.findIn K (.ref C_SealedBit) "deed" = some (some (.ref f_Bit_deed)))
    (in_16 : PySem.W.findIn K (.ref C_KindBit) "__init__" = some (some (.ref f_KindBit___init__)))
    (nw_16 : PySem.W.findIn K (.ref C_KindBit) "now" = some (some (.ref p_Bit_now)))
    (st_16 : PySem.W.findIn K (.ref C_KindBit) "state" = some (some (.ref p_Bit_state)))
    (l_TakenBit_read : K.lookup f_TakenBit_read = some ⟨oc_TakenBit_read, od_TakenBit_read, .func (PySem.W.ksFn "read" "TakenBit.read" (defArgs s_TakenBit_read) (defBody s_TakenBit_read) (defScope s_TakenBit_read) .none kV_TakenBit_read dc_TakenBit_read pm_TakenBit_read an_TakenBit_read (.ref cda_TakenBit_read) ct_TakenBit_read cc_TakenBit_read), sl_TakenBit_read⟩)
    (c_TakenBit_read : PySem.W.codeIn K (.ref cda_TakenBit_read) "TakenBit.read" = true)
    (ld_TakenBit_read : K.lookup cda_TakenBit_read = some ⟨ccl_TakenBit_read, cdd_TakenBit_read, .fields vs_TakenBit_read, ccs_TakenBit_read⟩)
    (vs2_TakenBit_read : vs_TakenBit_read[2]? = some (.str file_TakenBit_read tf_TakenBit_read))
    (fi2_TakenBit_read : ((l.prog.main.file : Str) == file_TakenBit_read) = true)
    (lc_TakenBit_read : K.lookup cc_TakenBit_read = some ⟨cl_TakenBit_read, cld_TakenBit_read, .cell (some (.ref C_TakenBit)), csl_TakenBit_read⟩)
    (dcl_TakenBit_read : ∃ cd, PySem.W.clsIn K C_TakenBit = some cd)
    (i_TakenBit_read : PySem.W.isFn K (.ref f_TakenBit_read) = true)
    (k_TakenBit_read : PySem.W.keepIn K (.ref f_TakenBit_read) = true)
    (l_RaisedBit_deed : K.lookup f_RaisedBit_deed = some ⟨oc_RaisedBit_deed, od_RaisedBit_deed, .func (PySem.W.ksFn "deed" "RaisedBit.deed" (defArgs s_RaisedBit_deed) (defBody s_RaisedBit_deed) (defScope s_RaisedBit_deed) .none kV_RaisedBit_deed dc_RaisedBit_deed pm_RaisedBit_deed an_RaisedBit_deed (.ref cda_RaisedBit_deed) ct_RaisedBit_deed cc_RaisedBit_deed), sl_RaisedBit_deed⟩)
    (c_RaisedBit_deed : PySem.W.codeIn K (.ref cda_RaisedBit_deed) "RaisedBit.deed" = true)
    (ld_RaisedBit_deed : K.lookup cda_RaisedBit_deed = some ⟨ccl_RaisedBit_deed, cdd_RaisedBit_deed, .fields vs_RaisedBit_deed, ccs_RaisedBit_deed⟩)
    (vs2_RaisedBit_deed : vs_RaisedBit_deed[2]? = some (.str file_RaisedBit_deed tf_RaisedBit_deed))
    (fi2_RaisedBit_deed : ((l.prog.main.file : Str) == file_RaisedBit_deed) = true)
    (lc_RaisedBit_deed : K.lookup cc_RaisedBit_deed = some ⟨cl_RaisedBit_deed, cld_RaisedBit_deed, .cell (some (.ref C_RaisedBit)), csl_RaisedBit_deed⟩)
    (dcl_RaisedBit_deed : ∃ cd, PySem.W.clsIn K C_RaisedBit = some cd)
    (i_RaisedBit_deed : PySem.W.isFn K (.ref f_RaisedBit_deed) = true)
    (k_RaisedBit_deed : PySem.W.keepIn K (.ref f_RaisedBit_deed) = true)
    (l_EndedBit_deed : K.lookup f_EndedBit_deed = some ⟨oc_EndedBit_deed, od_EndedBit_deed, .func (PySem.W.ksFn "deed" "EndedBit.deed" (defArgs s_EndedBit_deed) (defBody s_EndedBit_deed) (defScope s_EndedBit_deed) .none kV_EndedBit_deed dc_EndedBit_deed pm_EndedBit_deed an_EndedBit_deed (.ref cda_EndedBit_deed) ct_EndedBit_deed cc_EndedBit_deed), sl_EndedBit_deed⟩)
    (c_EndedBit_deed : PySem.W.codeIn K (.ref cda_EndedBit_deed) "EndedBit.deed" = true)
    (ld_EndedBit_deed : K.lookup cda_EndedBit_deed = some ⟨ccl_EndedBit_deed, cdd_EndedBit_deed, .fields vs_EndedBit_deed, ccs_EndedBit_deed⟩)
    (vs2_EndedBit_deed : vs_EndedBit_deed[2]? = some (.str file_EndedBit_deed tf_EndedBit_deed))
    (fi2_EndedBit_deed : ((l.prog.main.file : Str) == file_EndedBit_deed) = true)
    (lc_EndedBit_deed : K.lookup cc_EndedBit_deed = some ⟨cl_EndedBit_deed, cld_EndedBit_deed, .cell (some (.ref C_EndedBit)), csl_EndedBit_deed⟩)
    (dcl_EndedBit_deed : ∃ cd, PySem.W.clsIn K C_EndedBit = some cd)
    (i_EndedBit_deed : PySem.W.isFn K (.ref f_EndedBit_deed) = true)
    (k_EndedBit_deed : PySem.W.keepIn K (.ref f_EndedBit_deed) = true)
    (l_KindBit___init__ : K.lookup f_KindBit___init__ = some ⟨oc_KindBit___init__, od_KindBit___init__, .func (PySem.W.ksFn "__init__" "KindBit.__init__" (defArgs s_KindBit___init__) (defBody s_KindBit___init__) (defScope s_KindBit___init__) (.ref DT_KindBit___init__) kV_KindBit___init__ dc_KindBit___init__ pm_KindBit___init__ an_KindBit___init__ (.ref cda_KindBit___init__) ct_KindBit___init__ cc_KindBit___init__), sl_KindBit___init__⟩)
    (c_KindBit___init__ : PySem.W.codeIn K (.ref cda_KindBit___init__) "KindBit.__init__" = true)
    (ld_KindBit___init__ : K.lookup cda_KindBit___init__ = some ⟨ccl_KindBit___init__, cdd_KindBit___init__, .fields vs_KindBit___init__, ccs_KindBit___init__⟩)
    (vs2_KindBit___init__ : vs_KindBit___init__[2]? = some (.str file_KindBit___init__ tf_KindBit___init__))
    (fi2_KindBit___init__ : ((l.prog.main.file : Str) == file_KindBit___init__) = true)
    (lc_KindBit___init__ : K.lookup cc_KindBit___init__ = some ⟨cl_KindBit___init__, cld_KindBit___init__, .cell (some (.ref C_KindBit)), csl_KindBit___init__⟩)
    (dcl_KindBit___init__ : ∃ cd, PySem.W.clsIn K C_KindBit = some cd)
    (i_KindBit___init__ : PySem.W.isFn K (.ref f_KindBit___init__) = true)
    (k_KindBit___init__ : PySem.W.keepIn K (.ref f_KindBit___init__) = true)
    (dt_KindBit___init__ : K.lookup DT_KindBit___init__ = some ⟨.type "tuple", dd_DT_KindBit___init__, .seq #[.int 0 tk_KindBit___init__] n_DT_KindBit___init__, sl_DT_KindBit___init__⟩)
    (tpI : (l.prog.main.scope.names.lookup ("super" : Str)).isSome = false)
    (opI : PySem.W.nsIn K cStatics "thirdparty.any" = some none)
    (ti_Bit_read : PySem.W.typeIn K (.ref f_Bit_read) = some (.type "function"))
    (fn_Bit_read : PySem.W.fnIn K f_Bit_read = true)
    (ti_Bit_deed : PySem.W.typeIn K (.ref f_Bit_deed) = some (.type "function"))
    (fn_Bit_deed : PySem.W.fnIn K f_Bit_deed = true)
    (ti_EndedBit_deed : PySem.W.typeIn K (.ref f_EndedBit_deed) = some (.type "function"))
    (fn_EndedBit_deed : PySem.W.fnIn K f_EndedBit_deed = true)
    (ti_Bit___init__ : PySem.W.typeIn K (.ref f_Bit___init__) = some (.type "function"))
    (fn_Bit___init__ : PySem.W.fnIn K f_Bit___init__ = true)
    (su_1_TakenBit : PySem.W.ks_superIn K C_TakenBit C_TakenBit "read" = some (some (.ref f_Bit_read)))
    (sb_1_TakenBit : PySem.W.mroIn K C_TakenBit (.ref C_TakenBit) = some true)
    (su_8_RaisedBit : PySem.W.ks_superIn K C_RaisedBit C_RaisedBit "deed" = some (some (.ref f_Bit_deed)))
    (sb_8_RaisedBit : PySem.W.mroIn K C_RaisedBit (.ref C_RaisedBit) = some true)
    (su_9_EndedBit : PySem.W.ks_superIn K C_EndedBit C_EndedBit "deed" = some (some (.ref f_Bit_deed)))
    (sb_9_EndedBit : PySem.W.mroIn K C_EndedBit (.ref C_EndedBit) = some true)
    (su_10_RaisedBit : PySem.W.ks_superIn K C_DriftingBit C_RaisedBit "deed" = some (some (.ref f_EndedBit_deed)))
    (sb_10_RaisedBit : PySem.W.mroIn K C_DriftingBit (.ref C_RaisedBit) = some true)
    (su_10_EndedBit : PySem.W.ks_superIn K C_DriftingBit C_EndedBit "deed" = some (some (.ref f_Bit_deed)))
    (sb_10_EndedBit : PySem.W.mroIn K C_DriftingBit (.ref C_EndedBit) = some true)
    (su_11_RaisedBit : PySem.W.ks_superIn K C_EventBit C_RaisedBit "deed" = some (some (.ref f_Bit_deed)))
    (sb_11_RaisedBit : PySem.W.mroIn K C_EventBit (.ref C_RaisedBit) = some true)
    (su_12_TakenBit : PySem.W.ks_superIn K C_TakenEventBit C_TakenBit "read" = some (some (.ref f_Bit_read)))
    (sb_12_TakenBit : PySem.W.mroIn K C_TakenEventBit (.ref C_TakenBit) = some true)
    (su_12_RaisedBit : PySem.W.ks_superIn K C_TakenEventBit C_RaisedBit "deed" = some (some (.ref f_Bit_deed)))
    (sb_12_RaisedBit : PySem.W.mroIn K C_TakenEventBit (.ref C_RaisedBit) = some true)
    (su_13_EndedBit : PySem.W.ks_superIn K C_StartBit C_EndedBit "deed" = some (some (.ref f_Bit_deed)))
    (sb_13_EndedBit : PySem.W.mroIn K C_StartBit (.ref C_EndedBit) = some true)
    (su_14_RaisedBit : PySem.W.ks_superIn K C_GaugeBit C_RaisedBit "deed" = some (some (.ref f_EndedBit_deed)))
    (sb_14_RaisedBit : PySem.W.mroIn K C_GaugeBit (.ref C_RaisedBit) = some true)
    (su_14_EndedBit : PySem.W.ks_superIn K C_GaugeBit C_EndedBit "deed" = some (some (.ref f_Bit_deed)))
    (sb_14_EndedBit : PySem.W.mroIn K C_GaugeBit (.ref C_EndedBit) = some true)
    (su_15_TakenBit : PySem.W.ks_superIn K C_SealedBit C_TakenBit "read" = some (some (.ref f_Bit_read)))
    (sb_15_TakenBit : PySem.W.mroIn K C_SealedBit (.ref C_TakenBit) = some true)
    (su_16_KindBit : PySem.W.ks_superIn K C_KindBit C_KindBit "__init__" = some (some (.ref f_Bit___init__)))
    (sb_16_KindBit : PySem.W.mroIn K C_KindBit (.ref C_KindBit) = some true)
    (mM : PySem.W.nsIn K mainGlobals "MOVABLE" = some (some (.ref dM)))
    (lM : K.lookup dM = some ⟨.type "dict", none, .dict es_M n_M, #[]⟩)
    (litM : PySem.W.KeysLit w.params es_M.toList)
    (lowM : (dM == sysModules) = false)
    (iM0 : PySem.W.nsIn K dM "still" = some (some (.ref a_m0)))
    (iM1 : PySem.W.nsIn K dM "raise" = some (some (.ref a_m1)))
    (iM2 : PySem.W.nsIn K dM "end" = some (some (.ref a_m2)))
    (iM3 : PySem.W.nsIn K dM "drift" = some (some (.ref a_m3)))
    (tM0 : K.lookup a_m0 = some ⟨.type "tuple", dd_0, .seq #[] q_0, sl_0⟩)
    (tM1 : K.lookup a_m1 = some ⟨.type "tuple", dd_1, .seq #[.int 0 tk_1] q_1, sl_1⟩)
    (tM2 : K.lookup a_m2 = some ⟨.type "tuple", dd_2, .seq #[.int 1 tk_2] q_2, sl_2⟩)
    (tM3 : K.lookup a_m3 = some ⟨.type "tuple", dd_3, .seq #[.int 0 tk_3, .int 1 tk_4] q_3, sl_3⟩)
    (tyc : PySem.W.findIn K (.ref C_Kind) "__class__" = some (some (.builtin "object.__class__")))
    (tyg : PySem.W.specialIn K (.builtin "object.__class__") "__get__" = some (some (.builtin "getset_descriptor.__get__")))
    (tyt : PySem.W.takesIn K (.builtin "object.__class__") = some true)
    (tym : PySem.W.mroIn K C_Kind (.type "object") = some true)
    (tyi : PySem.W.kitOne K (.ref C_Kind) (.ref C_Kind) = some true)
    (lkK : K.lookup C_Kind = some o_K)
    (lkO : o_K = (excClassObj nm_K qq_K C_Kind N_Kind bs_K [.type "object"] hd_K sn_K sub_K ab_K col_K dd_K k0_K k1_K k2_K k3_K k5_K nid_K))
    (nsK : K.lookup N_Kind = some o_N)
    (nsO : ∀ K2 : PySem.W.Frag, K2.lookup N_Kind = some o_N → PySem.W.nsOkIn K2 N_Kind = true)
    (neq : PySem.W.nsIn K N_Kind "__eq__" = some (some (.ref f_Kind___eq__)))
    (nne : PySem.W.nsIn K N_Kind "__ne__" = some none)
    (foK : oc_Kind___eq__ = .type "function")
    (aB : PySem.W.nsIn K mainGlobals "BitError" = some (some (.ref CB)))
    (aE0 : PySem.W.nsIn K mainGlobals "InvalidWidth" = some (some (.ref e0)))
    (aE1 : PySem.W.nsIn K mainGlobals "InvalidLane" = some (some (.ref e1)))
    (aE2 : PySem.W.nsIn K mainGlobals "InvalidWord" = some (some (.ref e2)))
    (aE3 : PySem.W.nsIn K mainGlobals "InvalidShift" = some (some (.ref e3)))
    (aE4 : PySem.W.nsIn K mainGlobals "InvalidKind" = some (some (.ref e4)))
    (aE5 : PySem.W.nsIn K mainGlobals "InvalidLetters" = some (some (.ref e5)))
    (xs2 : PySem.W.subIn K (.ref e2) (.type "BaseException") = some true)
    (xv2 : PySem.W.findIn K (.ref e2) "value" = some none)
    (lkE2 : K.lookup e2 = some o_E2)
    (lkF2 : o_E2 = (excClassObj nm_E2 qq_E2 e2 N_E2 bs_E2 bm_E2 true sn_E2 sub_E2 ab_E2 col_E2 dd_E2 k0_E2 k1_E2 k2_E2 k3_E2 k5_E2 "ValueError.__new__"))
    (rvE2 : PySem.HandSPX.refsVE bm_E2 = true)
    (saE2 : PySem.W.findIn K (.ref e2) "__setattr__" = some (some (.builtin "object.__setattr__")))
    (tyE2 : PySem.W.typeIn K (.ref e2) = some (.type "type"))
    (kpE2 : PySem.W.keepIn K (.ref e2) = true)
    (inE2 : PySem.W.findIn K (.ref e2) "__init__" = some (some (.ref fI2)))
    (tiE2 : PySem.W.typeIn K (.ref fI2) = some (.type "function"))
    (lIK2 : K.lookup fI2 = some ⟨oc_I2, od_I2, .func (PySem.W.ksFn "__init__" "InvalidWord.__init__" (defArgs s_I2) (defBody s_I2) (defScope s_I2) .none kV_I2 dc_I2 pm_I2 an_I2 (.ref cda2) ct_I2 ccell2), sl_I2⟩)
    (cIK2 : PySem.W.codeIn K (.ref cda2) "InvalidWord.__init__" = true)
    (lcd2 : K.lookup cda2 = some ⟨ccl_I2, cdd_I2, .fields vs_I2, ccs_I2⟩)
    (vsI2 : vs_I2[2]? = some (.str file_I2 tf_I2))
    (fiI2 : ((l.prog.main.file : Str) == file_I2) = true)
    (lcc2 : K.lookup ccell2 = some ⟨cl_I2, cld_I2, .cell (some (.ref e2)), csl_I2⟩)
    (sbI2 : PySem.W.mroIn K e2 (.ref e2) = some true)
    (veI2 : PySem.W.mroIn K e2 (.type "ValueError") = some true)
    (suI2 : PySem.W.ks_superIn K e2 e2 "__init__" = some (some (.builtin "ValueError.__init__")))
    (kt2_0 : PySem.W.kitOne K (.ref e2) (.ref e0) = some false)
    (kt2_1 : PySem.W.kitOne K (.ref e2) (.ref e1) = some false)
    (kt2_2 : PySem.W.kitOne K (.ref e2) (.ref e2) = some true)
    (kt2_3 : PySem.W.kitOne K (.ref e2) (.ref e3) = some false)
    (kt2_4 : PySem.W.kitOne K (.ref e2) (.ref e4) = some false)
    (kt2_5 : PySem.W.kitOne K (.ref e2) (.ref e5) = some false)
    (ktv2 : PySem.W.kitOne K (.ref e2) (.type "ValueError") = some true)
    (exm2 : PySem.W.exmOne K (.ref e2) (.ref CB) = some true)
    (xg2 : PySem.W.findIn K (.ref e2) "__getattribute__" = some (some (.builtin "BaseException.__getattribute__")))
    (xk2 : PySem.W.findIn K (.ref e2) "__getattr__" = some none)
    (xd2 : PySem.W.hasDictIn K e2 = true)
    (xa2 : PySem.W.findIn K (.ref e2) "__class__" = some (some (.builtin "object.__class__")))
    (xm2 : PySem.W.mroIn K e2 (.type "object") = some true)
    (tabA : PySem.W.tabIn K "_law_act" = some (cA, PA))
    (ntbA : K.lookup PA = none)
    (tabC : PySem.W.tabIn K "_law_class_right" = some (cC, PC))
    (ntbC : K.lookup PC = none)
    (npac : PA ≠ PC)
    (z_int : PySem.W.nsIn K mainGlobals "int" = some none)
    (z_bool : PySem.W.nsIn K mainGlobals "bool" = some none)
    (z_abs : PySem.W.nsIn K mainGlobals "abs" = some none)
    (z_len : PySem.W.nsIn K mainGlobals "len" = some none)
    (z_list : PySem.W.nsIn K mainGlobals "list" = some none)
    (z_tuple : PySem.W.nsIn K mainGlobals "tuple" = some none)
    (z_max : PySem.W.nsIn K mainGlobals "max" = some none)
    (z_range : PySem.W.nsIn K mainGlobals "range" = some none)
    (z_isinstance : PySem.W.nsIn K mainGlobals "isinstance" = some none)
    (z_repr : PySem.W.nsIn K mainGlobals "repr" = some none)
    (z_sorted : PySem.W.nsIn K mainGlobals "sorted" = some none)
    (z_set : PySem.W.nsIn K mainGlobals "set" = some none)
    (z_zip : PySem.W.nsIn K mainGlobals "zip" = some none)
    (z_ValueError : PySem.W.nsIn K mainGlobals "ValueError" = some none)
    (z_super : PySem.W.nsIn K mainGlobals "super" = some none)
    : ∃ (fd : FuncData) (cs : List (Addr × Addr)), cs.length = (["_law_act", "_law_class_right"] : List Str).length ∧ (∀ p ∈ (["_law_act", "_law_class_right"] : List Str).zip cs, PySem.W.tabIn K p.1 = some p.2) ∧ (∀ p ∈ cs, K.lookup p.2 = none) ∧ (∀ (s : Shared) (v : Value), BindsTo s fd ⟨[v], []⟩ [("_law_script", v)]) ∧ ∀ base : Heap, K.In base → base.Ns mainGlobals mg → (∀ p ∈ cs, LamX.TabB base mg p.1 p.2) → KG.FnG l.prog w K mg base CX0 15 fa fd ["_law_script"] (spLaw K cs) := by
  have e := hfa.symm.trans (PySem.W.mg_of X G a_law)
  cases e
  have F_is_integer := fun_mk (st := s_is_integer) l_is_integer c_is_integer k_is_integer
  have b_is_integer := F_is_integer.binds (ps := ["value"]) fun _ _ _ _ _ _ us hl => match us, hl with | [_], _ => rfl
  have F_need_bit := fun_mk (st := s_need_bit) l_need_bit c_need_bit k_need_bit
  have b_need_bit := F_need_bit.binds (ps := ["value"]) fun _ _ _ _ _ _ us hl => match us, hl with | [_], _ => rfl
  have F_Bit_now := fun_mk (st := s_Bit_now) l_Bit_now c_Bit_now k_Bit_now
  have b_Bit_now := F_Bit_now.binds (ps := ["self"]) fun _ _ _ _ _ _ us hl => match us, hl with | [_], _ => rfl
  have F_Bit_state := fun_mk (st := s_Bit_state) l_Bit_state c_Bit_state k_Bit_state
  have b_Bit_state := F_Bit_state.binds (ps := ["self"]) fun _ _ _ _ _ _ us hl => match us, hl with | [_], _ => rfl
  have F_Bit_read := fun_mk (st := s_Bit_read) l_Bit_read c_Bit_read k_Bit_read
  have b_Bit_read := F_Bit_read.binds (ps := ["self"]) fun _ _ _ _ _ _ us hl => match us, hl with | [_], _ => rfl
  have F_Bit_write := fun_mk (st := s_Bit_write) l_Bit_write c_Bit_write k_Bit_write
  have b_Bit_write := F_Bit_write.binds (ps := ["self", "bit"]) fun _ _ _ _ _ _ us hl => match us, hl with | [_, _], _ => rfl
  have F_Bit_deed := fun_mk (st := s_Bit_deed) l_Bit_deed c_Bit_deed k_Bit_deed
  have b_Bit_deed := F_Bit_deed.binds (ps := ["self"]) fun _ _ _ _ _ _ us hl => match us, hl with | [_], _ => rfl
  have F_ClearedBit_write := fun_mk (st := s_ClearedBit_write) l_ClearedBit_write c_ClearedBit_write k_ClearedBit_write
  have b_ClearedBit_write := F_ClearedBit_write.binds (ps := ["self", "bit"]) fun _ _ _ _ _ _ us hl => match us, hl with | [_, _], _ => rfl
  have F_ZeroClearedBit_write := fun_mk (st := s_ZeroClearedBit_write) l_ZeroClearedBit_write c_ZeroClearedBit_write k_ZeroClearedBit_write
  have b_ZeroClearedBit_write := F_ZeroClearedBit_write.binds (ps := ["self", "bit"]) fun _ _ _ _ _ _ us hl => match us, hl with | [_, _], _ => rfl
  have F_SetBit_write := fun_mk (st := s_SetBit_write) l_SetBit_write c_SetBit_write k_SetBit_write
  have b_SetBit_write := F_SetBit_write.binds (ps := ["self", "bit"]) fun _ _ _ _ _ _ us hl => match us, hl with | [_, _], _ => rfl
  have F_FlippedBit_write := fun_mk (st := s_FlippedBit_write) l_FlippedBit_write c_FlippedBit_write k_FlippedBit_write
  have b_FlippedBit_write := F_FlippedBit_write.binds (ps := ["self", "bit"]) fun _ _ _ _ _ _ us hl => match us, hl with | [_, _], _ => rfl
  have F_OnceBit_write := fun_mk (st := s_OnceBit_write) l_OnceBit_write c_OnceBit_write k_OnceBit_write
  have b_OnceBit_write := F_OnceBit_write.binds (ps := ["self", "bit"]) fun _ _ _ _ _ _ us hl => match us, hl with | [_, _], _ => rfl
  have F_DeafBit_write := fun_mk (st := s_DeafBit_write) l_DeafBit_write c_DeafBit_write k_DeafBit_write
  have b_DeafBit_write := F_DeafBit_write.binds (ps := ["self", "bit"]) fun _ _ _ _ _ _ us hl => match us, hl with | [_, _], _ => rfl
  have F_KindBit_read := fun_mk (st := s_KindBit_read) l_KindBit_read c_KindBit_read k_KindBit_read
  have b_KindBit_read := F_KindBit_read.binds (ps := ["self"]) fun _ _ _ _ _ _ us hl => match us, hl with | [_], _ => rfl
  have F_KindBit_write := fun_mk (st := s_KindBit_write) l_KindBit_write c_KindBit_write k_KindBit_write
  have b_KindBit_write := F_KindBit_write.binds (ps := ["self", "bit"]) fun _ _ _ _ _ _ us hl => match us, hl with | [_, _], _ => rfl
  have F_KindBit_deed := fun_mk (st := s_KindBit_deed) l_KindBit_deed c_KindBit_deed k_KindBit_deed
  have b_KindBit_deed := F_KindBit_deed.binds (ps := ["self"]) fun _ _ _ _ _ _ us hl => match us, hl with | [_], _ => rfl
  have F_Kind___init__ := fun_mk (st := s_Kind___init__) l_Kind___init__ c_Kind___init__ k_Kind___init__
  have b_Kind___init__ := F_Kind___init__.binds (ps := ["self", "reading", "writing", "device"]) fun _ _ _ _ _ _ us hl => match us, hl with | [_, _, _, _], _ => rfl
  have F_Kind_after_read := fun_mk (st := s_Kind_after_read) l_Kind_after_read c_Kind_after_read k_Kind_after_read
  have b_Kind_after_read := F_Kind_after_read.binds (ps := ["self", "state"]) fun _ _ _ _ _ _ us hl => match us, hl with | [_, _], _ => rfl
  have F_Kind_after_write := fun_mk (st := s_Kind_after_write) l_Kind_after_write c_Kind_after_write k_Kind_after_write
  have b_Kind_after_write := F_Kind_after_write.binds (ps := ["self", "state", "bit"]) fun _ _ _ _ _ _ us hl => match us, hl with | [_, _, _], _ => rfl
  have F_Kind_unguarded := fun_mk (st := s_Kind_unguarded) l_Kind_unguarded c_Kind_unguarded k_Kind_unguarded
  have b_Kind_unguarded := F_Kind_unguarded.binds (ps := ["self", "state", "bit"]) fun _ _ _ _ _ _ us hl => match us, hl with | [_, _, _], _ => rfl
  have F_Kind_deeds := fun_mk (st := s_Kind_deeds) l_Kind_deeds c_Kind_deeds k_Kind_deeds
  have b_Kind_deeds := F_Kind_deeds.binds (ps := ["self", "state"]) fun _ _ _ _ _ _ us hl => match us, hl with | [_, _], _ => rfl
  have F_Kind___eq__ := fun_mk (st := s_Kind___eq__) l_Kind___eq__ c_Kind___eq__ k_Kind___eq__
  have b_Kind___eq__ := F_Kind___eq__.binds (ps := ["self", "other"]) fun _ _ _ _ _ _ us hl => match us, hl with | [_, _], _ => rfl
  have F__law_pen := fun_mk (st := s__law_pen) l__law_pen c__law_pen k__law_pen
  have b__law_pen := F__law_pen.binds (ps := ["_law_script"]) fun _ _ _ _ _ _ us hl => match us, hl with | [_], _ => rfl
  have F__law_draw := fun_mk (st := s__law_draw) l__law_draw c__law_draw k__law_draw
  have b__law_draw := F__law_draw.binds (ps := ["_law_pen_here", "_law_many"]) fun _ _ _ _ _ _ us hl => match us, hl with | [_, _], _ => rfl
  have F__law_heard := fun_mk (st := s__law_heard) l__law_heard c__law_heard k__law_heard
  have b__law_heard := F__law_heard.binds (ps := ["_law_ask"]) fun _ _ _ _ _ _ us hl => match us, hl with | [_], _ => rfl
  have F__law_plain_bit := fun_mk (st := s__law_plain_bit) l__law_plain_bit c__law_plain_bit k__law_plain_bit
  have b__law_plain_bit := F__law_plain_bit.binds (ps := ["_law_number", "_law_begin"]) fun _ _ _ _ _ _ us hl => match us, hl with | [_, _], _ => rfl
  have F__law_bit := fun_mk (st := s__law_bit) l__law_bit c__law_bit k__law_bit
  have b__law_bit := F__law_bit.binds (ps := ["_law_number", "_law_begin"]) fun _ _ _ _ _ _ us hl => match us, hl with | [_, _], _ => rfl
  have F__law_words_of := fun_mk (st := s__law_words_of) l__law_words_of c__law_words_of k__law_words_of
  have b__law_words_of := F__law_words_of.binds (ps := ["_law_number"]) fun _ _ _ _ _ _ us hl => match us, hl with | [_], _ => rfl
  have F__law_odd := fun_mk (st := s__law_odd) l__law_odd c__law_odd k__law_odd
  have b__law_odd := F__law_odd.binds (ps := ["_law_pen_here"]) fun _ _ _ _ _ _ us hl => match us, hl with | [_], _ => rfl
  have F__law_act := fun_mk (st := s__law_act) l__law_act c__law_act k__law_act
  have b__law_act := F__law_act.binds (ps := ["_law_one", "_law_pick", "_law_thing"]) fun _ _ _ _ _ _ us hl => match us, hl with | [_, _, _], _ => rfl
  have F__law_class_right := fun_mk (st := s__law_class_right) l__law_class_right c__law_class_right k__law_class_right
  have b__law_class_right := F__law_class_right.binds (ps := ["_law_pen_here", "_law_number"]) fun _ _ _ _ _ _ us hl => match us, hl with | [_, _], _ => rfl
  have F_law := fun_mk (st := s_law) l_law c_law k_law
  have b_law := F_law.binds (ps := ["_law_script"]) fun _ _ _ _ _ _ us hl => match us, hl with | [_], _ => rfl

  have T0 : Txt mg := {
    z_int := PySem.W.mg_none_of X G z_int, z_bool := PySem.W.mg_none_of X G z_bool, z_abs := PySem.W.mg_none_of X G z_abs, z_len := PySem.W.mg_none_of X G z_len, z_list := PySem.W.mg_none_of X G z_list, z_tuple := PySem.W.mg_none_of X G z_tuple, z_max := PySem.W.mg_none_of X G z_max
    z_range := PySem.W.mg_none_of X G z_range, z_isinstance := PySem.W.mg_none_of X G z_isinstance, z_repr := PySem.W.mg_none_of X G z_repr, z_sorted := PySem.W.mg_none_of X G z_sorted, z_set := PySem.W.mg_none_of X G z_set, z_zip := PySem.W.mg_none_of X G z_zip, z_ValueError := PySem.W.mg_none_of X G z_ValueError }
  have cK : Cls K C_Kind := ⟨pg_Kind, hd_Kind, po_Kind, sa_Kind⟩
  have TM : TxtM K w mg C_Kind dM := {
    toTxt := T0
    cl := cK, n_reading := n_Kind_reading, n_writing := n_Kind_writing, n_device := n_Kind_device, n_states := n_Kind_states, mg_Kind := PySem.W.mg_of X G aC_Kind
    con := ⟨.type "type", t_Kind_READINGS, t_Kind_WRITINGS, t_Kind_DEVICES, _, _, _, ⟨rd_Kind, ga_Kind⟩, ⟨fc_t_Kind_READINGS, rfl⟩, ⟨fc_t_Kind_WRITINGS, rfl⟩, ⟨fc_t_Kind_DEVICES, rfl⟩,
      sqK lk_t_Kind_READINGS (by simp) (.cons ⟨_, rfl⟩ (.cons ⟨_, rfl⟩ .nil)),
      sqK lk_t_Kind_WRITINGS (by simp) (.cons ⟨_, rfl⟩ (.cons ⟨_, rfl⟩ (.cons ⟨_, rfl⟩ (.cons ⟨_, rfl⟩ (.cons ⟨_, rfl⟩ (.cons ⟨_, rfl⟩ (.cons ⟨_, rfl⟩ .nil))))))),
      sqK lk_t_Kind_DEVICES (by simp) (.cons ⟨_, rfl⟩ (.cons ⟨_, rfl⟩ (.cons ⟨_, rfl⟩ (.cons ⟨_, rfl⟩ .nil))))⟩
    ty := fun e => .base (.ins e cK tyc tyg tyt tym), isi := tyi, mg_MOVABLE := PySem.W.mg_of X G mM, mov := ⟨es_M, n_M, lM, litM, lowM⟩
    item := fun d hd => by
      simp only [DV, List.mem_cons, List.not_mem_nil, or_false] at hd
      rcases hd with rfl | rfl | rfl | rfl
      · exact ⟨a_m0, iM0, sqK tM0 (by simp) .nil⟩
      · exact ⟨a_m1, iM1, sqK tM1 (by simp) (.cons ⟨_, rfl⟩ .nil)⟩
      · exact ⟨a_m2, iM2, sqK tM2 (by simp) (.cons ⟨_, rfl⟩ .nil)⟩
      · exact ⟨a_m3, iM3, sqK tM3 (by simp) (.cons ⟨_, rfl⟩ (.cons ⟨_, rfl⟩ .nil))⟩ }
  have TK := TM.toTxtK
  have TE : TxtE K mg CB (errsOf e0 e1 e2 e3 e4 e5) := {
    toTxt := T0, mg_BitError := PySem.W.mg_of X G aB, mg_InvalidWidth := PySem.W.mg_of X G aE0, mg_InvalidLane := PySem.W.mg_of X G aE1, mg_InvalidWord := PySem.W.mg_of X G aE2, mg_InvalidShift := PySem.W.mg_of X G aE3
    mg_InvalidKind := PySem.W.mg_of X G aE4, mg_InvalidLetters := PySem.W.mg_of X G aE5 }
  have EA2 : ErrAt K CB (errsOf e0 e1 e2 e3 e4 e5) 2 := {
    lt := by decide, bit := exm2, exc := ⟨xg2, xk2, xs2, xd2, xa2, tyg, tyt, xm2⟩, xf := ⟨xg2, xk2, xs2, xd2⟩, nof := xv2, ve := ktv2
    kit := fun j hj => by
      match j, hj with
      | 0, _ => exact kt2_0
      | 1, _ => exact kt2_1
      | 2, _ => exact kt2_2
      | 3, _ => exact kt2_3
      | 4, _ => exact kt2_4
      | 5, _ => exact kt2_5
      | j + 6, h => exact absurd h (by omega) }

  have OX2 : OexC K e2 := ⟨⟨nm_E2, qq_E2, N_E2, bs_E2, bm_E2, sn_E2, sub_E2, ab_E2, col_E2, dd_E2, k0_E2, k1_E2, k2_E2, k3_E2, k5_E2, lkE2.trans (congrArg some lkF2), rvE2⟩, saE2, xs2, tyE2, kpE2⟩
  have SF2 : KX.SupFn K l.prog fI2 (PySem.W.ksFn "__init__" "InvalidWord.__init__" (defArgs s_I2) (defBody s_I2) (defScope s_I2) .none kV_I2 dc_I2 pm_I2 an_I2 (.ref cda2) ct_I2 ccell2) e2 "value" "value" := {
    ex := ⟨"InvalidWord.__init__", defArgs s_I2, defScope s_I2, .none, kV_I2, dc_I2, pm_I2, ct_I2, oc_I2, ccl_I2, cl_I2, an_I2, od_I2, cdd_I2, cld_I2, sl_I2, ccs_I2, csl_I2, cda2, ccell2, vs_I2, file_I2, tf_I2, _, _, _, _, _, _, _, _, _, _, _, _, _, _, rfl, lIK2, cIK2, lcd2, vsI2, fiI2, lcc2, rfl, rfl, rfl, rfl, rfl, by decide +kernel, free_only (by decide +kernel), rfl, rfl, rfl, rfl, fun en => rfl⟩
    top := tpI, nv := ⟨by decide, by decide, by decide⟩, opq := opI, sub := sbI2, ve := veI2, sup := suI2, nof := xv2 }

  have eA : cd__law_act = .ref cA := code_of tabA a__law_act l__law_act rfl
  subst eA
  have eC : cd__law_class_right = .ref cC := code_of tabC a__law_class_right l__law_class_right rfl
  subst eC
  refine ⟨PySem.W.fnOf "law" "law" (defArgs s_law) (defBody s_law) (defScope s_law) .none kV_law dc_law pm_law an_law cd_law ct_law, [(cA, PA), (cC, PC)], rfl, fun p hp => ?_, fun p hp => ?_, fun s v => .of_eq rfl, fun base _ _ tb => ?_⟩
  · rcases List.mem_cons.mp (show p ∈ [(("_law_act" : Str), (cA, PA)), (("_law_class_right" : Str), (cC, PC))] from hp) with rfl | hp
    · exact tabA
    · rw [List.mem_singleton.mp hp]
      exact tabC
  · rcases List.mem_cons.mp hp with rfl | hp
    · exact ntbA
    · rw [List.mem_singleton.mp hp]
      exact ntbC
  have em2 : KX.ErrMk l.prog w K mg base e2 "InvalidWord" "value" := ⟨fI2, _, "value", OX2, inE2, tiE2, KX.sup_ok SF2 OX2 (PySem.W.mg_none_of X G z_super) (by decide +kernel), .all fun us hl => (match us, hl with | [_, _], _ => rfl), PySem.W.mg_of X G aE2⟩

  have hsup : mg "super" = none := PySem.W.mg_none_of X G z_super
  have SF_TakenBit_read : SF l.prog K f_TakenBit_read (PySem.W.ksFn "read" "TakenBit.read" (defArgs s_TakenBit_read) (defBody s_TakenBit_read) (defScope s_TakenBit_read) .none kV_TakenBit_read dc_TakenBit_read pm_TakenBit_read an_TakenBit_read (.ref cda_TakenBit_read) ct_TakenBit_read cc_TakenBit_read) "read" "TakenBit.read" s_TakenBit_read cda_TakenBit_read cc_TakenBit_read C_TakenBit := ⟨⟨_, _, _, _, _, _, _, _, _, rfl, l_TakenBit_read⟩, c_TakenBit_read, ⟨_, _, _, _, _, _, ld_TakenBit_read, vs2_TakenBit_read, fi2_TakenBit_read⟩, ⟨_, _, _, lc_TakenBit_read⟩, tpI, opI, dcl_TakenBit_read⟩
  have b_TakenBit_read : Binds K (PySem.W.ksFn "read" "TakenBit.read" (defArgs s_TakenBit_read) (defBody s_TakenBit_read) (defScope s_TakenBit_read) .none kV_TakenBit_read dc_TakenBit_read pm_TakenBit_read an_TakenBit_read (.ref cda_TakenBit_read) ct_TakenBit_read cc_TakenBit_read) ["self"] [] := .all fun us hl => (match us, hl with | [_], _ => rfl)
  have SF_RaisedBit_deed : SF l.prog K f_RaisedBit_deed (PySem.W.ksFn "deed" "RaisedBit.deed" (defArgs s_RaisedBit_deed) (defBody s_RaisedBit_deed) (defScope s_RaisedBit_deed) .none kV_RaisedBit_deed dc_RaisedBit_deed pm_RaisedBit_deed an_RaisedBit_deed (.ref cda_RaisedBit_deed) ct_RaisedBit_deed cc_RaisedBit_deed) "deed" "RaisedBit.deed" s_RaisedBit_deed cda_RaisedBit_deed cc_RaisedBit_deed C_RaisedBit := ⟨⟨_, _, _, _, _, _, _, _, _, rfl, l_RaisedBit_deed⟩, c_RaisedBit_deed, ⟨_, _, _, _, _, _, ld_RaisedBit_deed, vs2_RaisedBit_deed, fi2_RaisedBit_deed⟩, ⟨_, _, _, lc_RaisedBit_deed⟩, tpI, opI, dcl_RaisedBit_deed⟩
  have b_RaisedBit_deed : Binds K (PySem.W.ksFn "deed" "RaisedBit.deed" (defArgs s_RaisedBit_deed) (defBody s_RaisedBit_deed) (defScope s_RaisedBit_deed) .none kV_RaisedBit_deed dc_RaisedBit_deed pm_RaisedBit_deed an_RaisedBit_deed (.ref cda_RaisedBit_deed) ct_RaisedBit_deed cc_RaisedBit_deed) ["self"] [] := .all fun us hl => (match us, hl with | [_], _ => rfl)
  have SF_EndedBit_deed : SF l.prog K f_EndedBit_deed (PySem.W.ksFn "deed" "EndedBit.deed" (defArgs s_EndedBit_deed) (defBody s_EndedBit_deed) (defScope s_EndedBit_deed) .none kV_EndedBit_deed dc_EndedBit_deed pm_EndedBit_deed an_EndedBit_deed (.ref cda_EndedBit_deed) ct_EndedBit_deed cc_EndedBit_deed) "deed" "EndedBit.deed" s_EndedBit_deed cda_EndedBit_deed cc_EndedBit_deed C_EndedBit := ⟨⟨_, _, _, _, _, _, _, _, _, rfl, l_EndedBit_deed⟩, c_EndedBit_deed, ⟨_, _, _, _, _, _, ld_EndedBit_deed, vs2_EndedBit_deed, fi2_EndedBit_deed⟩, ⟨_, _, _, lc_EndedBit_deed⟩, tpI, opI, dcl_EndedBit_deed⟩
  have b_EndedBit_deed : Binds K (PySem.W.ksFn "deed" "EndedBit.deed" (defArgs s_EndedBit_deed) (defBody s_EndedBit_deed) (defScope s_EndedBit_deed) .none kV_EndedBit_deed dc_EndedBit_deed pm_EndedBit_deed an_EndedBit_deed (.ref cda_EndedBit_deed) ct_EndedBit_deed cc_EndedBit_deed) ["self"] [] := .all fun us hl => (match us, hl with | [_], _ => rfl)
  have SF_KindBit___init__ : SF l.prog K f_KindBit___init__ (PySem.W.ksFn "__init__" "KindBit.__init__" (defArgs s_KindBit___init__) (defBody s_KindBit___init__) (defScope s_KindBit___init__) (.ref DT_KindBit___init__) kV_KindBit___init__ dc_KindBit___init__ pm_KindBit___init__ an_KindBit___init__ (.ref cda_KindBit___init__) ct_KindBit___init__ cc_KindBit___init__) "__init__" "KindBit.__init__" s_KindBit___init__ cda_KindBit___init__ cc_KindBit___init__ C_KindBit := ⟨⟨_, _, _, _, _, _, _, _, _, rfl, l_KindBit___init__⟩, c_KindBit___init__, ⟨_, _, _, _, _, _, ld_KindBit___init__, vs2_KindBit___init__, fi2_KindBit___init__⟩, ⟨_, _, _, lc_KindBit___init__⟩, tpI, opI, dcl_KindBit___init__⟩
  have b_KindBit___init__ : Binds K (PySem.W.ksFn "__init__" "KindBit.__init__" (defArgs s_KindBit___init__) (defBody s_KindBit___init__) (defScope s_KindBit___init__) (.ref DT_KindBit___init__) kV_KindBit___init__ dc_KindBit___init__ pm_KindBit___init__ an_KindBit___init__ (.ref cda_KindBit___init__) ct_KindBit___init__ cc_KindBit___init__) ["self", "kind", "value"] [.int 0 tk_KindBit___init__] := fun s us hX hl => match us, (show us.length = 2 by simpa using hl) with
    | [u1, u2], _ => by
      obtain ⟨k, e1, e2⟩ : ∃ k, bindArgs (PySem.W.ksFn "__init__" "KindBit.__init__" (defArgs s_KindBit___init__) (defBody s_KindBit___init__) (defScope s_KindBit___init__) (.ref DT_KindBit___init__) kV_KindBit___init__ dc_KindBit___init__ pm_KindBit___init__ an_KindBit___init__ (.ref cda_KindBit___init__) ct_KindBit___init__ cc_KindBit___init__) ⟨[u1, u2], []⟩ = seqItems? (.ref DT_KindBit___init__) >>= k ∧ k (some #[.int 0 tk_KindBit___init__]) = pure ((["self", "kind", "value"] : List Str).zip [u1, u2, .int 0 tk_KindBit___init__]) := ⟨_, rfl, rfl⟩
      refine BindsTo.of_looks fun M => ?_
      show PySem.W.Looks M s.heap (bindArgs _ ⟨[u1, u2], []⟩) _
      rw [e1]
      exact looks_items hX dt_KindBit___init__ rfl (.of_pure e2)
  have b3_KindBit___init__ : Binds K (PySem.W.ksFn "__init__" "KindBit.__init__" (defArgs s_KindBit___init__) (defBody s_KindBit___init__) (defScope s_KindBit___init__) (.ref DT_KindBit___init__) kV_KindBit___init__ dc_KindBit___init__ pm_KindBit___init__ an_KindBit___init__ (.ref cda_KindBit___init__) ct_KindBit___init__ cc_KindBit___init__) ["self", "kind", "value"] [] := fun s us hX hl => match us, (show us.length = 3 by simpa using hl) with
    | [u1, u2, u3], _ => by
      obtain ⟨k, e1, e2⟩ : ∃ k, bindArgs (PySem.W.ksFn "__init__" "KindBit.__init__" (defArgs s_KindBit___init__) (defBody s_KindBit___init__) (defScope s_KindBit___init__) (.ref DT_KindBit___init__) kV_KindBit___init__ dc_KindBit___init__ pm_KindBit___init__ an_KindBit___init__ (.ref cda_KindBit___init__) ct_KindBit___init__ cc_KindBit___init__) ⟨[u1, u2, u3], []⟩ = seqItems? (.ref DT_KindBit___init__) >>= k ∧ k (some #[.int 0 tk_KindBit___init__]) = pure ((["self", "kind", "value"] : List Str).zip [u1, u2, u3]) := ⟨_, rfl, rfl⟩
      refine BindsTo.of_looks fun M => ?_
      show PySem.W.Looks M s.heap (bindArgs _ ⟨[u1, u2, u3], []⟩) _
      rw [e1]
      exact looks_items hX dt_KindBit___init__ rfl (.of_pure e2)
  have kb_KindBit : KBn K (PySem.W.ksFn "__init__" "KindBit.__init__" (defArgs s_KindBit___init__) (defBody s_KindBit___init__) (defScope s_KindBit___init__) (.ref DT_KindBit___init__) kV_KindBit___init__ dc_KindBit___init__ pm_KindBit___init__ an_KindBit___init__ (.ref cda_KindBit___init__) ct_KindBit___init__ cc_KindBit___init__) ["self", "kind", "value"] 1 ["value", "kind"] (fun us ws => us ++ ws.reverse) gRev := ⟨fun s us ws hX l1 l2 => match us, ws, l1, l2 with
    | [u1], [u2, u3], _, _ => by
      obtain ⟨k, e1, e2⟩ : ∃ k, bindArgs (PySem.W.ksFn "__init__" "KindBit.__init__" (defArgs s_KindBit___init__) (defBody s_KindBit___init__) (defScope s_KindBit___init__) (.ref DT_KindBit___init__) kV_KindBit___init__ dc_KindBit___init__ pm_KindBit___init__ an_KindBit___init__ (.ref cda_KindBit___init__) ct_KindBit___init__ cc_KindBit___init__) ⟨[u1], [("value", u2), ("kind", u3)]⟩ = seqItems? (.ref DT_KindBit___init__) >>= k ∧ k (some #[.int 0 tk_KindBit___init__]) = pure ((["self", "kind", "value"] : List Str).zip [u1, u3, u2]) := ⟨_, rfl, rfl⟩
      refine BindsTo.of_looks fun M => ?_
      show PySem.W.Looks M s.heap (bindArgs _ ⟨[u1], [("value", u2), ("kind", u3)]⟩) _
      rw [e1]
      exact looks_items hX dt_KindBit___init__ rfl (.of_pure e2), fun r1 r2 => r1.append (vals_rev r2)⟩
  have FD : FunD K "__init__" "Bit.__init__" (defArgs s_Bit___init__) (defBody s_Bit___init__) (defScope s_Bit___init__) [.int 0] [] f_Bit___init__ _ := ⟨⟨_, _, _, _, _, _, _, _, _, _, rfl, l_Bit___init__, c_Bit___init__, .inr ⟨by simp, DT_Bit___init__, _, [.int 0 tk_Bit___init___0], _, rfl, dt_Bit___init__, rfl, .cons ⟨_, rfl⟩ .nil⟩, .inl rfl⟩, k_Bit___init__⟩
  obtain ⟨ds2, vd2, bd2⟩ := FD.binds1 (ps := ["self", "value"]) 2 1 (by simp) rfl fun T kV doc pm an cdv ct us its hu hi => match us, its, hu, hi with
    | [_, _], [_], _, _ => ⟨_, rfl, rfl⟩
  obtain rfl : ds2 = [] := by
    cases vd2
    rfl
  have cI : KB.Callee l.prog w K mg base CX0 1 "is_integer" ["value"] (spInt) := ⟨⟨_, _, ok_int F_is_integer T0, PySem.W.mg_of X G a_is_integer, k_is_integer, b_is_integer⟩⟩
  have cN : KB.Callee l.prog w K mg base (L2.CX l.prog w) 3 "need_bit" ["value"] (spNeed e2) := ⟨⟨_, _, ok_need F_need_bit em2 cI, PySem.W.mg_of X G a_need_bit, k_need_bit, b_need_bit⟩⟩
  have tb_0 : TxtB K C_Bit := ⟨⟨pg_Bit, hd_Bit, po_Bit, sa_Bit⟩, n_Bit_held⟩
  have tb_1 : TxtB K C_TakenBit := ⟨⟨pg_TakenBit, hd_TakenBit, po_TakenBit, sa_TakenBit⟩, n_TakenBit_held⟩
  have tb_2 : TxtB K C_ClearedBit := ⟨⟨pg_ClearedBit, hd_ClearedBit, po_ClearedBit, sa_ClearedBit⟩, n_ClearedBit_held⟩
  have tb_3 : TxtB K C_ZeroClearedBit := ⟨⟨pg_ZeroClearedBit, hd_ZeroClearedBit, po_ZeroClearedBit, sa_ZeroClearedBit⟩, n_ZeroClearedBit_held⟩
  have tb_4 : TxtB K C_SetBit := ⟨⟨pg_SetBit, hd_SetBit, po_SetBit, sa_SetBit⟩, n_SetBit_held⟩
  have tb_5 : TxtB K C_FlippedBit := ⟨⟨pg_FlippedBit, hd_FlippedBit, po_FlippedBit, sa_FlippedBit⟩, n_FlippedBit_held⟩
  have tb_6 : TxtB K C_OnceBit := ⟨⟨pg_OnceBit, hd_OnceBit, po_OnceBit, sa_OnceBit⟩, n_OnceBit_held⟩
  have tb_7 : TxtB K C_DeafBit := ⟨⟨pg_DeafBit, hd_DeafBit, po_DeafBit, sa_DeafBit⟩, n_DeafBit_held⟩
  have tb_8 : TxtB K C_RaisedBit := ⟨⟨pg_RaisedBit, hd_RaisedBit, po_RaisedBit, sa_RaisedBit⟩, n_RaisedBit_held⟩
  have tb_9 : TxtB K C_EndedBit := ⟨⟨pg_EndedBit, hd_EndedBit, po_EndedBit, sa_EndedBit⟩, n_EndedBit_held⟩
  have tb_10 : TxtB K C_DriftingBit := ⟨⟨pg_DriftingBit, hd_DriftingBit, po_DriftingBit, sa_DriftingBit⟩, n_DriftingBit_held⟩
  have tb_11 : TxtB K C_EventBit := ⟨⟨pg_EventBit, hd_EventBit, po_EventBit, sa_EventBit⟩, n_EventBit_held⟩
  have tb_12 : TxtB K C_TakenEventBit := ⟨⟨pg_TakenEventBit, hd_TakenEventBit, po_TakenEventBit, sa_TakenEventBit⟩, n_TakenEventBit_held⟩
  have tb_13 : TxtB K C_StartBit := ⟨⟨pg_StartBit, hd_StartBit, po_StartBit, sa_StartBit⟩, n_StartBit_held⟩
  have tb_14 : TxtB K C_GaugeBit := ⟨⟨pg_GaugeBit, hd_GaugeBit, po_GaugeBit, sa_GaugeBit⟩, n_GaugeBit_held⟩
  have tb_15 : TxtB K C_SealedBit := ⟨⟨pg_SealedBit, hd_SealedBit, po_SealedBit, sa_SealedBit⟩, n_SealedBit_held⟩
  have tb_16 : TxtB K C_KindBit := ⟨⟨pg_KindBit, hd_KindBit, po_KindBit, sa_KindBit⟩, n_KindBit_held⟩
  have pn_0 : KW.OwnP l.prog w K mg base 1 C_Bit "now" ["self"] (spNow C_Bit) := ⟨⟨_, _, _, ⟨nw_0, pb_Bit_now, pc_Bit_now, ⟨_, pd_Bit_now⟩⟩, ok_now F_Bit_now tb_0, b_Bit_now⟩, tb_0.cl⟩
  have ps_0 : KW.OwnP l.prog w K mg base 1 C_Bit "state" ["self"] (spState C_Bit) := ⟨⟨_, _, _, ⟨st_0, pb_Bit_state, pc_Bit_state, ⟨_, pd_Bit_state⟩⟩, ok_state F_Bit_state tb_0, b_Bit_state⟩, tb_0.cl⟩
  have pn_1 : KW.OwnP l.prog w K mg base 1 C_TakenBit "now" ["self"] (spNow C_TakenBit) := ⟨⟨_, _, _, ⟨nw_1, pb_Bit_now, pc_Bit_now, ⟨_, pd_Bit_now⟩⟩, ok_now F_Bit_now tb_1, b_Bit_now⟩, tb_1.cl⟩
  have ps_1 : KW.OwnP l.prog w K mg base 1 C_TakenBit "state" ["self"] (spState C_TakenBit) := ⟨⟨_, _, _, ⟨st_1, pb_Bit_state, pc_Bit_state, ⟨_, pd_Bit_state⟩⟩, ok_state F_Bit_state tb_1, b_Bit_state⟩, tb_1.cl⟩
  have pn_2 : KW.OwnP l.prog w K mg base 1 C_ClearedBit "now" ["self"] (spNow C_ClearedBit) := ⟨⟨_, _, _, ⟨nw_2, pb_Bit_now, pc_Bit_now, ⟨_, pd_Bit_now⟩⟩, ok_now F_Bit_now tb_2, b_Bit_now⟩, tb_2.cl⟩
  have ps_2 : KW.OwnP l.prog w K mg base 1 C_ClearedBit "state" ["self"] (spState C_ClearedBit) := ⟨⟨_, _, _, ⟨st_2, pb_Bit_state, pc_Bit_state, ⟨_, pd_Bit_state⟩⟩, ok_state F_Bit_state tb_2, b_Bit_state⟩, tb_2.cl⟩
  have pn_3 : KW.OwnP l.prog w K mg base 1 C_ZeroClearedBit "now" ["self"] (spNow C_ZeroClearedBit) := ⟨⟨_, _, _, ⟨nw_3, pb_Bit_now, pc_Bit_now, ⟨_, pd_Bit_now⟩⟩, ok_now F_Bit_now tb_3, b_Bit_now⟩, tb_3.cl⟩
  have ps_3 : KW.OwnP l.prog w K mg base 1 C_ZeroClearedBit "state" ["self"] (spState C_ZeroClearedBit) := ⟨⟨_, _, _, ⟨st_3, pb_Bit_state, pc_Bit_state, ⟨_, pd_Bit_state⟩⟩, ok_state F_Bit_state tb_3, b_Bit_state⟩, tb_3.cl⟩
  have pn_4 : KW.OwnP l.prog w K mg base 1 C_SetBit "now" ["self"] (spNow C_SetBit) := ⟨⟨_, _, _, ⟨nw_4, pb_Bit_now, pc_Bit_now, ⟨_, pd_Bit_now⟩⟩, ok_now F_Bit_now tb_4, b_Bit_now⟩, tb_4.cl⟩
  have ps_4 : KW.OwnP l.prog w K mg base 1 C_SetBit "state" ["self"] (spState C_SetBit) := ⟨⟨_, _, _, ⟨st_4, pb_Bit_state, pc_Bit_state, ⟨_, pd_Bit_state⟩⟩, ok_state F_Bit_state tb_4, b_Bit_state⟩, tb_4.cl⟩
  have pn_5 : KW.OwnP l.prog w K mg base 1 C_FlippedBit "now" ["self"] (spNow C_FlippedBit) := ⟨⟨_, _, _, ⟨nw_5, pb_Bit_now, pc_Bit_now, ⟨_, pd_Bit_now⟩⟩, ok_now F_Bit_now tb_5, b_Bit_now⟩, tb_5.cl⟩
  have ps_5 : KW.OwnP l.prog w K mg base 1 C_FlippedBit "state" ["self"] (spState C_FlippedBit) := ⟨⟨_, _, _, ⟨st_5, pb_Bit_state, pc_Bit_state, ⟨_, pd_Bit_state⟩⟩, ok_state F_Bit_state tb_5, b_Bit_state⟩, tb_5.cl⟩
  have pn_6 : KW.OwnP l.prog w K mg base 1 C_OnceBit "now" ["self"] (spNow C_OnceBit) := ⟨⟨_, _, _, ⟨nw_6, pb_Bit_now, pc_Bit_now, ⟨_, pd_Bit_now⟩⟩, ok_now F_Bit_now tb_6, b_Bit_now⟩, tb_6.cl⟩
  have ps_6 : KW.OwnP l.prog w K mg base 1 C_OnceBit "state" ["self"] (spState C_OnceBit) := ⟨⟨_, _, _, ⟨st_6, pb_Bit_state, pc_Bit_state, ⟨_, pd_Bit_state⟩⟩, ok_state F_Bit_state tb_6, b_Bit_state⟩, tb_6.cl⟩
  have pn_7 : KW.OwnP l.prog w K mg base 1 C_DeafBit "now" ["self"] (spNow C_DeafBit) := ⟨⟨_, _, _, ⟨nw_7, pb_Bit_now, pc_Bit_now, ⟨_, pd_Bit_now⟩⟩, ok_now F_Bit_now tb_7, b_Bit_now⟩, tb_7.cl⟩
  have ps_7 : KW.OwnP l.prog w K mg base 1 C_DeafBit "state" ["self"] (spState C_DeafBit) := ⟨⟨_, _, _, ⟨st_7, pb_Bit_state, pc_Bit_state, ⟨_, pd_Bit_state⟩⟩, ok_state F_Bit_state tb_7, b_Bit_state⟩, tb_7.cl⟩
  have pn_8 : KW.OwnP l.prog w K mg base 1 C_RaisedBit "now" ["self"] (spNow C_RaisedBit) := ⟨⟨_, _, _, ⟨nw_8, pb_Bit_now, pc_Bit_now, ⟨_, pd_Bit_now⟩⟩, ok_now F_Bit_now tb_8, b_Bit_now⟩, tb_8.cl⟩
  have ps_8 : KW.OwnP l.prog w K mg base 1 C_RaisedBit "state" ["self"] (spState C_RaisedBit) := ⟨⟨_, _, _, ⟨st_8, pb_Bit_state, pc_Bit_state, ⟨_, pd_Bit_state⟩⟩, ok_state F_Bit_state tb_8, b_Bit_state⟩, tb_8.cl⟩
  have pn_9 : KW.OwnP l.prog w K mg base 1 C_EndedBit "now" ["self"] (spNow C_EndedBit) := ⟨⟨_, _, _, ⟨nw_9, pb_Bit_now, pc_Bit_now, ⟨_, pd_Bit_now⟩⟩, ok_now F_Bit_now tb_9, b_Bit_now⟩, tb_9.cl⟩
  have ps_9 : KW.OwnP l.prog w K mg base 1 C_EndedBit "state" ["self"] (spState C_EndedBit) := ⟨⟨_, _, _, ⟨st_9, pb_Bit_state, pc_Bit_state, ⟨_, pd_Bit_state⟩⟩, ok_state F_Bit_state tb_9, b_Bit_state⟩, tb_9.cl⟩
  have pn_10 : KW.OwnP l.prog w K mg base 1 C_DriftingBit "now" ["self"] (spNow C_DriftingBit) := ⟨⟨_, _, _, ⟨nw_10, pb_Bit_now, pc_Bit_now, ⟨_, pd_Bit_now⟩⟩, ok_now F_Bit_now tb_10, b_Bit_now⟩, tb_10.cl⟩
  have ps_10 : KW.OwnP l.prog w K mg base 1 C_DriftingBit "state" ["self"] (spState C_DriftingBit) := ⟨⟨_, _, _, ⟨st_10, pb_Bit_state, pc_Bit_state, ⟨_, pd_Bit_state⟩⟩, ok_state F_Bit_state tb_10, b_Bit_state⟩, tb_10.cl⟩
  have pn_11 : KW.OwnP l.prog w K mg base 1 C_EventBit "now" ["self"] (spNow C_EventBit) := ⟨⟨_, _, _, ⟨nw_11, pb_Bit_now, pc_Bit_now, ⟨_, pd_Bit_now⟩⟩, ok_now F_Bit_now tb_11, b_Bit_now⟩, tb_11.cl⟩
  have ps_11 : KW.OwnP l.prog w K mg base 1 C_EventBit "state" ["self"] (spState C_EventBit) := ⟨⟨_, _, _, ⟨st_11, pb_Bit_state, pc_Bit_state, ⟨_, pd_Bit_state⟩⟩, ok_state F_Bit_state tb_11, b_Bit_state⟩, tb_11.cl⟩
  have pn_12 : KW.OwnP l.prog w K mg base 1 C_TakenEventBit "now" ["self"] (spNow C_TakenEventBit) := ⟨⟨_, _, _, ⟨nw_12, pb_Bit_now, pc_Bit_now, ⟨_, pd_Bit_now⟩⟩, ok_now F_Bit_now tb_12, b_Bit_now⟩, tb_12.cl⟩
  have ps_12 : KW.OwnP l.prog w K mg base 1 C_TakenEventBit "state" ["self"] (spState C_TakenEventBit) := ⟨⟨_, _, _, ⟨st_12, pb_Bit_state, pc_Bit_state, ⟨_, pd_Bit_state⟩⟩, ok_state F_Bit_state tb_12, b_Bit_state⟩, tb_12.cl⟩
  have pn_13 : KW.OwnP l.prog w K mg base 1 C_StartBit "now" ["self"] (spNow C_StartBit) := ⟨⟨_, _, _, ⟨nw_13, pb_Bit_now, pc_Bit_now, ⟨_, pd_Bit_now⟩⟩, ok_now F_Bit_now tb_13, b_Bit_now⟩, tb_13.cl⟩
  have ps_13 : KW.OwnP l.prog w K mg base 1 C_StartBit "state" ["self"] (spState C_StartBit) := ⟨⟨_, _, _, ⟨st_13, pb_Bit_state, pc_Bit_state, ⟨_, pd_Bit_state⟩⟩, ok_state F_Bit_state tb_13, b_Bit_state⟩, tb_13.cl⟩
  have pn_14 : KW.OwnP l.prog w K mg base 1 C_GaugeBit "now" ["self"] (spNow C_GaugeBit) := ⟨⟨_, _, _, ⟨nw_14, pb_Bit_now, pc_Bit_now, ⟨_, pd_Bit_now⟩⟩, ok_now F_Bit_now tb_14, b_Bit_now⟩, tb_14.cl⟩
  have ps_14 : KW.OwnP l.prog w K mg base 1 C_GaugeBit "state" ["self"] (spState C_GaugeBit) := ⟨⟨_, _, _, ⟨st_14, pb_Bit_state, pc_Bit_state, ⟨_, pd_Bit_state⟩⟩, ok_state F_Bit_state tb_14, b_Bit_state⟩, tb_14.cl⟩
  have pn_15 : KW.OwnP l.prog w K mg base 1 C_SealedBit "now" ["self"] (spNow C_SealedBit) := ⟨⟨_, _, _, ⟨nw_15, pb_Bit_now, pc_Bit_now, ⟨_, pd_Bit_now⟩⟩, ok_now F_Bit_now tb_15, b_Bit_now⟩, tb_15.cl⟩
  have ps_15 : KW.OwnP l.prog w K mg base 1 C_SealedBit "state" ["self"] (spState C_SealedBit) := ⟨⟨_, _, _, ⟨st_15, pb_Bit_state, pc_Bit_state, ⟨_, pd_Bit_state⟩⟩, ok_state F_Bit_state tb_15, b_Bit_state⟩, tb_15.cl⟩
  have pn_16 : KW.OwnP l.prog w K mg base 1 C_KindBit "now" ["self"] (spNow C_KindBit) := ⟨⟨_, _, _, ⟨nw_16, pb_Bit_now, pc_Bit_now, ⟨_, pd_Bit_now⟩⟩, ok_now F_Bit_now tb_16, b_Bit_now⟩, tb_16.cl⟩
  have ps_16 : KW.OwnP l.prog w K mg base 1 C_KindBit "state" ["self"] (spState C_KindBit) := ⟨⟨_, _, _, ⟨st_16, pb_Bit_state, pc_Bit_state, ⟨_, pd_Bit_state⟩⟩, ok_state F_Bit_state tb_16, b_Bit_state⟩, tb_16.cl⟩
  have mr_0 : CalleeM l.prog w K mg base CX0 5 C_Bit "read" ["self"] (spRd C_Bit (fr 0)) := ⟨⟨_, _, (ok_read F_Bit_read tb_0 pn_0).mono (by decide), ⟨rd_0, i_Bit_read, k_Bit_read⟩, b_Bit_read⟩, tb_0.cl⟩
  have kw_0 : CalleeMK l.prog w K mg base 4 C_Bit "write" ["self", "bit"] (spWr0 C_Bit (fw 0)) 0 ["bit"] (fun us zs => us ++ zs) := ⟨⟨_, _, fun us ws => us ++ ws, wr_calm (ok_write_Bit F_Bit_write tb_0 cN), ⟨wr_0, i_Bit_write, k_Bit_write⟩, ⟨fun s us ws _ l1 l2 => .of_eq (match us, ws, l1, l2 with | [_], [_], _, _ => rfl), fun r1 r2 => r1.append r2⟩⟩, tb_0.cl⟩
  have mw_0 : CalleeM l.prog w K mg base (L2.CX l.prog w) 4 C_Bit "write" ["self", "bit"] (spWr C_Bit e2 (fw 0)) := ⟨⟨_, _, ok_write_Bit F_Bit_write tb_0 cN, ⟨wr_0, i_Bit_write, k_Bit_write⟩, b_Bit_write⟩, tb_0.cl⟩
  have md_0 : CalleeM l.prog w K mg base CX0 9 C_Bit "deed" ["self"] (spDe C_Bit (gd 0) (fdd 0)) := ⟨⟨_, _, ok_deed (k := 8) F_Bit_deed, ⟨de_0, i_Bit_deed, k_Bit_deed⟩, b_Bit_deed⟩, tb_0.cl⟩
  have fi_0 : FnOk l.prog w K mg base (L2.CX l.prog w) 4 f_Bit___init__ _ ["self", "value"] (spInit C_Bit e2) := ok_init FD tb_0 cN
  have fam_0 : Fam l.prog w K mg base (pick [C_Bit, C_TakenBit, C_ClearedBit, C_ZeroClearedBit, C_SetBit, C_FlippedBit, C_OnceBit, C_DeafBit, C_RaisedBit, C_EndedBit, C_DriftingBit, C_EventBit, C_TakenEventBit, C_StartBit, C_GaugeBit, C_SealedBit, C_KindBit]) e2 0 := { tb := tb_0, m_read := mr_0, k_write := kw_0, m_write := mw_0, m_deed := md_0, p_now := pn_0, p_state := ps_0, m_make := ⟨⟨_, _, fi_0, ⟨mk_Bit, in_0, i_Bit___init__, kc_Bit⟩, PySem.W.mg_of X G aC_Bit, bd2⟩⟩ }
  have mr_1 : CalleeM l.prog w K mg base CX0 5 C_TakenBit "read" ["self"] (spRd C_TakenBit (fr 1)) := ⟨⟨_, _, ok_tread SF_TakenBit_read tb_1 hsup ⟨⟨_, _, su_1_TakenBit, ti_Bit_read, fn_Bit_read, ok_read F_Bit_read tb_1 pn_1, b_Bit_read⟩, sb_1_TakenBit⟩, ⟨rd_1, i_TakenBit_read, k_TakenBit_read⟩, b_TakenBit_read⟩, tb_1.cl⟩
  have kw_1 : CalleeMK l.prog w K mg base 4 C_TakenBit "write" ["self", "bit"] (spWr0 C_TakenBit (fw 1)) 0 ["bit"] (fun us zs => us ++ zs) := ⟨⟨_, _, fun us ws => us ++ ws, wr_calm (ok_write_Bit F_Bit_write tb_1 cN), ⟨wr_1, i_Bit_write, k_Bit_write⟩, ⟨fun s us ws _ l1 l2 => .of_eq (match us, ws, l1, l2 with | [_], [_], _, _ => rfl), fun r1 r2 => r1.append r2⟩⟩, tb_1.cl⟩
  have mw_1 : CalleeM l.prog w K mg base (L2.CX l.prog w) 4 C_TakenBit "write" ["self", "bit"] (spWr C_TakenBit e2 (fw 1)) := ⟨⟨_, _, ok_write_Bit F_Bit_write tb_1 cN, ⟨wr_1, i_Bit_write, k_Bit_write⟩, b_Bit_write⟩, tb_1.cl⟩
  have md_1 : CalleeM l.prog w K mg base CX0 9 C_TakenBit "deed" ["self"] (spDe C_TakenBit (gd 1) (fdd 1)) := ⟨⟨_, _, ok_deed (k := 8) F_Bit_deed, ⟨de_1, i_Bit_deed, k_Bit_deed⟩, b_Bit_deed⟩, tb_1.cl⟩
  have fi_1 : FnOk l.prog w K mg base (L2.CX l.prog w) 4 f_Bit___init__ _ ["self", "value"] (spInit C_TakenBit e2) := ok_init FD tb_1 cN
  have fam_1 : Fam l.prog w K mg base (pick [C_Bit, C_TakenBit, C_ClearedBit, C_ZeroClearedBit, C_SetBit, C_FlippedBit, C_OnceBit, C_DeafBit, C_RaisedBit, C_EndedBit, C_DriftingBit, C_EventBit, C_TakenEventBit, C_StartBit, C_GaugeBit, C_SealedBit, C_KindBit]) e2 1 := { tb := tb_1, m_read := mr_1, k_write := kw_1, m_write := mw_1, m_deed := md_1, p_now := pn_1, p_state := ps_1, m_make := ⟨⟨_, _, fi_1, ⟨mk_TakenBit, in_1, i_Bit___init__, kc_TakenBit⟩, PySem.W.mg_of X G aC_TakenBit, bd2⟩⟩ }
  have mr_2 : CalleeM l.prog w K mg base CX0 5 C_ClearedBit "read" ["self"] (spRd C_ClearedBit (fr 2)) := ⟨⟨_, _, (ok_read F_Bit_read tb_2 pn_2).mono (by decide), ⟨rd_2, i_Bit_read, k_Bit_read⟩, b_Bit_read⟩, tb_2.cl⟩
  have kw_2 : CalleeMK l.prog w K mg base 4 C_ClearedBit "write" ["self", "bit"] (spWr0 C_ClearedBit (fw 2)) 0 ["bit"] (fun us zs => us ++ zs) := ⟨⟨_, _, fun us ws => us ++ ws, wr_calm (ok_write_ClearedBit F_ClearedBit_write tb_2 cN), ⟨wr_2, i_ClearedBit_write, k_ClearedBit_write⟩, ⟨fun s us ws _ l1 l2 => .of_eq (match us, ws, l1, l2 with | [_], [_], _, _ => rfl), fun r1 r2 => r1.append r2⟩⟩, tb_2.cl⟩
  have mw_2 : CalleeM l.prog w K mg base (L2.CX l.prog w) 4 C_ClearedBit "write" ["self", "bit"] (spWr C_ClearedBit e2 (fw 2)) := ⟨⟨_, _, ok_write_ClearedBit F_ClearedBit_write tb_2 cN, ⟨wr_2, i_ClearedBit_write, k_ClearedBit_write⟩, b_ClearedBit_write⟩, tb_2.cl⟩
  have md_2 : CalleeM l.prog w K mg base CX0 9 C_ClearedBit "deed" ["self"] (spDe C_ClearedBit (gd 2) (fdd 2)) := ⟨⟨_, _, ok_deed (k := 8) F_Bit_deed, ⟨de_2, i_Bit_deed, k_Bit_deed⟩, b_Bit_deed⟩, tb_2.cl⟩
  have fi_2 : FnOk l.prog w K mg base (L2.CX l.prog w) 4 f_Bit___init__ _ ["self", "value"] (spInit C_ClearedBit e2) := ok_init FD tb_2 cN
  have fam_2 : Fam l.prog w K mg base (pick [C_Bit, C_TakenBit, C_ClearedBit, C_ZeroClearedBit, C_SetBit, C_FlippedBit, C_OnceBit, C_DeafBit, C_RaisedBit, C_EndedBit, C_DriftingBit, C_EventBit, C_TakenEventBit, C_StartBit, C_GaugeBit, C_SealedBit, C_KindBit]) e2 2 := { tb := tb_2, m_read := mr_2, k_write := kw_2, m_write := mw_2, m_deed := md_2, p_now := pn_2, p_state := ps_2, m_make := ⟨⟨_, _, fi_2, ⟨mk_ClearedBit, in_2, i_Bit___init__, kc_ClearedBit⟩, PySem.W.mg_of X G aC_ClearedBit, bd2⟩⟩ }
  have mr_3 : CalleeM l.prog w K mg base CX0 5 C_ZeroClearedBit "read" ["self"] (spRd C_ZeroClearedBit (fr 3)) := ⟨⟨_, _, (ok_read F_Bit_read tb_3 pn_3).mono (by decide), ⟨rd_3, i_Bit_read, k_Bit_read⟩, b_Bit_read⟩, tb_3.cl⟩
  have kw_3 : CalleeMK l.prog w K mg base 4 C_ZeroClearedBit "write" ["self", "bit"] (spWr0 C_ZeroClearedBit (fw 3)) 0 ["bit"] (fun us zs => us ++ zs) := ⟨⟨_, _, fun us ws => us ++ ws, wr_calm (ok_write_ZeroClearedBit F_ZeroClearedBit_write tb_3 cN), ⟨wr_3, i_ZeroClearedBit_write, k_ZeroClearedBit_write⟩, ⟨fun s us ws _ l1 l2 => .of_eq (match us, ws, l1, l2 with | [_], [_], _, _ => rfl), fun r1 r2 => r1.append r2⟩⟩, tb_3.cl⟩
  have mw_3 : CalleeM l.prog w K mg base (L2.CX l.prog w) 4 C_ZeroClearedBit "write" ["self", "bit"] (spWr C_ZeroClearedBit e2 (fw 3)) := ⟨⟨_, _, ok_write_ZeroClearedBit F_ZeroClearedBit_write tb_3 cN, ⟨wr_3, i_ZeroClearedBit_write, k_ZeroClearedBit_write⟩, b_ZeroClearedBit_write⟩, tb_3.cl⟩
  have md_3 : CalleeM l.prog w K mg base CX0 9 C_ZeroClearedBit "deed" ["self"] (spDe C_ZeroClearedBit (gd 3) (fdd 3)) := ⟨⟨_, _, ok_deed (k := 8) F_Bit_deed, ⟨de_3, i_Bit_deed, k_Bit_deed⟩, b_Bit_deed⟩, tb_3.cl⟩
  have fi_3 : FnOk l.prog w K mg base (L2.CX l.prog w) 4 f_Bit___init__ _ ["self", "value"] (spInit C_ZeroClearedBit e2) := ok_init FD tb_3 cN
  have fam_3 : Fam l.prog w K mg base (pick [C_Bit, C_TakenBit, C_ClearedBit, C_ZeroClearedBit, C_SetBit, C_FlippedBit, C_OnceBit, C_DeafBit, C_RaisedBit, C_EndedBit, C_DriftingBit, C_EventBit, C_TakenEventBit, C_StartBit, C_GaugeBit, C_SealedBit, C_KindBit]) e2 3 := { tb := tb_3, m_read := mr_3, k_write := kw_3, m_write := mw_3, m_deed := md_3, p_now := pn_3, p_state := ps_3, m_make := ⟨⟨_, _, fi_3, ⟨mk_ZeroClearedBit, in_3, i_Bit___init__, kc_ZeroClearedBit⟩, PySem.W.mg_of X G aC_ZeroClearedBit, bd2⟩⟩ }
  have mr_4 : CalleeM l.prog w K mg base CX0 5 C_SetBit "read" ["self"] (spRd C_SetBit (fr 4)) := ⟨⟨_, _, (ok_read F_Bit_read tb_4 pn_4).mono (by decide), ⟨rd_4, i_Bit_read, k_Bit_read⟩, b_Bit_read⟩, tb_4.cl⟩
  have kw_4 : CalleeMK l.prog w K mg base 4 C_SetBit "write" ["self", "bit"] (spWr0 C_SetBit (fw 4)) 0 ["bit"] (fun us zs => us ++ zs) := ⟨⟨_, _, fun us ws => us ++ ws, wr_calm (ok_write_SetBit F_SetBit_write tb_4 cN), ⟨wr_4, i_SetBit_write, k_SetBit_write⟩, ⟨fun s us ws _ l1 l2 => .of_eq (match us, ws, l1, l2 with | [_], [_], _, _ => rfl), fun r1 r2 => r1.append r2⟩⟩, tb_4.cl⟩
  have mw_4 : CalleeM l.prog w K mg base (L2.CX l.prog w) 4 C_SetBit "write" ["self", "bit"] (spWr C_SetBit e2 (fw 4)) := ⟨⟨_, _, ok_write_SetBit F_SetBit_write tb_4 cN, ⟨wr_4, i_SetBit_write, k_SetBit_write⟩, b_SetBit_write⟩, tb_4.cl⟩
  have md_4 : CalleeM l.prog w K mg base CX0 9 C_SetBit "deed" ["self"] (spDe C_SetBit (gd 4) (fdd 4)) := ⟨⟨_, _, ok_deed (k := 8) F_Bit_deed, ⟨de_4, i_Bit_deed, k_Bit_deed⟩, b_Bit_deed⟩, tb_4.cl⟩
  have fi_4 : FnOk l.prog w K mg base (L2.CX l.prog w) 4 f_Bit___init__ _ ["self", "value"] (spInit C_SetBit e2) := ok_init FD tb_4 cN
  have fam_4 : Fam l.prog w K mg base (pick [C_Bit, C_TakenBit, C_ClearedBit, C_ZeroClearedBit, C_SetBit, C_FlippedBit, C_OnceBit, C_DeafBit, C_RaisedBit, C_EndedBit, C_DriftingBit, C_EventBit, C_TakenEventBit, C_StartBit, C_GaugeBit, C_SealedBit, C_KindBit]) e2 4 := { tb := tb_4, m_read := mr_4, k_write := kw_4, m_write := mw_4, m_deed := md_4, p_now := pn_4, p_state := ps_4, m_make := ⟨⟨_, _, fi_4, ⟨mk_SetBit, in_4, i_Bit___init__, kc_SetBit⟩, PySem.W.mg_of X G aC_SetBit, bd2⟩⟩ }
  have mr_5 : CalleeM l.prog w K mg base CX0 5 C_FlippedBit "read" ["self"] (spRd C_FlippedBit (fr 5)) := ⟨⟨_, _, (ok_read F_Bit_read tb_5 pn_5).mono (by decide), ⟨rd_5, i_Bit_read, k_Bit_read⟩, b_Bit_read⟩, tb_5.cl⟩
  have kw_5 : CalleeMK l.prog w K mg base 4 C_FlippedBit "write" ["self", "bit"] (spWr0 C_FlippedBit (fw 5)) 0 ["bit"] (fun us zs => us ++ zs) := ⟨⟨_, _, fun us ws => us ++ ws, wr_calm (ok_write_FlippedBit F_FlippedBit_write tb_5 cN), ⟨wr_5, i_FlippedBit_write, k_FlippedBit_write⟩, ⟨fun s us ws _ l1 l2 => .of_eq (match us, ws, l1, l2 with | [_], [_], _, _ => rfl), fun r1 r2 => r1.append r2⟩⟩, tb_5.cl⟩
  have mw_5 : CalleeM l.prog w K mg base (L2.CX l.prog w) 4 C_FlippedBit "write" ["self", "bit"] (spWr C_FlippedBit e2 (fw 5)) := ⟨⟨_, _, ok_write_FlippedBit F_FlippedBit_write tb_5 cN, ⟨wr_5, i_FlippedBit_write, k_FlippedBit_write⟩, b_FlippedBit_write⟩, tb_5.cl⟩
  have md_5 : CalleeM l.prog w K mg base CX0 9 C_FlippedBit "deed" ["self"] (spDe C_FlippedBit (gd 5) (fdd 5)) := ⟨⟨_, _, ok_deed (k := 8) F_Bit_deed, ⟨de_5, i_Bit_deed, k_Bit_deed⟩, b_Bit_deed⟩, tb_5.cl⟩
  have fi_5 : FnOk l.prog w K mg base (L2.CX l.prog w) 4 f_Bit___init__ _ ["self", "value"] (spInit C_FlippedBit e2) := ok_init FD tb_5 cN
  have fam_5 : Fam l.prog w K mg base (pick [C_Bit, C_TakenBit, C_ClearedBit, C_ZeroClearedBit, C_SetBit, C_FlippedBit, C_OnceBit, C_DeafBit, C_RaisedBit, C_EndedBit, C_DriftingBit, C_EventBit, C_TakenEventBit, C_StartBit, C_GaugeBit, C_SealedBit, C_KindBit]) e2 5 := { tb := tb_5, m_read := mr_5, k_write := kw_5, m_write := mw_5, m_deed := md_5, p_now := pn_5, p_state := ps_5, m_make := ⟨⟨_, _, fi_5, ⟨mk_FlippedBit, in_5, i_Bit___init__, kc_FlippedBit⟩, PySem.W.mg_of X G aC_FlippedBit, bd2⟩⟩ }
  have mr_6 : CalleeM l.prog w K mg base CX0 5 C_OnceBit "read" ["self"] (spRd C_OnceBit (fr 6)) := ⟨⟨_, _, (ok_read F_Bit_read tb_6 pn_6).mono (by decide), ⟨rd_6, i_Bit_read, k_Bit_read⟩, b_Bit_read⟩, tb_6.cl⟩
  have kw_6 : CalleeMK l.prog w K mg base 4 C_OnceBit "write" ["self", "bit"] (spWr0 C_OnceBit (fw 6)) 0 ["bit"] (fun us zs => us ++ zs) := ⟨⟨_, _, fun us ws => us ++ ws, wr_calm (ok_write_OnceBit F_OnceBit_write tb_6 cN), ⟨wr_6, i_OnceBit_write, k_OnceBit_write⟩, ⟨fun s us ws _ l1 l2 => .of_eq (match us, ws, l1, l2 with | [_], [_], _, _ => rfl), fun r1 r2 => r1.append r2⟩⟩, tb_6.cl⟩
  have mw_6 : CalleeM l.prog w K mg base (L2.CX l.prog w) 4 C_OnceBit "write" ["self", "bit"] (spWr C_OnceBit e2 (fw 6)) := ⟨⟨_, _, ok_write_OnceBit F_OnceBit_write tb_6 cN, ⟨wr_6, i_OnceBit_write, k_OnceBit_write⟩, b_OnceBit_write⟩, tb_6.cl⟩
  have md_6 : CalleeM l.prog w K mg base CX0 9 C_OnceBit "deed" ["self"] (spDe C_OnceBit (gd 6) (fdd 6)) := ⟨⟨_, _, ok_deed (k := 8) F_Bit_deed, ⟨de_6, i_Bit_deed, k_Bit_deed⟩, b_Bit_deed⟩, tb_6.cl⟩
  have fi_6 : FnOk l.prog w K mg base (L2.CX l.prog w) 4 f_Bit___init__ _ ["self", "value"] (spInit C_OnceBit e2) := ok_init FD tb_6 cN
  have fam_6 : Fam l.prog w K mg base (pick [C_Bit, C_TakenBit, C_ClearedBit, C_ZeroClearedBit, C_SetBit, C_FlippedBit, C_OnceBit, C_DeafBit, C_RaisedBit, C_EndedBit, C_DriftingBit, C_EventBit, C_TakenEventBit, C_StartBit, C_GaugeBit, C_SealedBit, C_KindBit]) e2 6 := { tb := tb_6, m_read := mr_6, k_write := kw_6, m_write := mw_6, m_deed := md_6, p_now := pn_6, p_state := ps_6, m_make := ⟨⟨_, _, fi_6, ⟨mk_OnceBit, in_6, i_Bit___init__, kc_OnceBit⟩, PySem.W.mg_of X G aC_OnceBit, bd2⟩⟩ }
  have mr_7 : CalleeM l.prog w K mg base CX0 5 C_DeafBit "read" ["self"] (spRd C_DeafBit (fr 7)) := ⟨⟨_, _, (ok_read F_Bit_read tb_7 pn_7).mono (by decide), ⟨rd_7, i_Bit_read, k_Bit_read⟩, b_Bit_read⟩, tb_7.cl⟩
  have kw_7 : CalleeMK l.prog w K mg base 4 C_DeafBit "write" ["self", "bit"] (spWr0 C_DeafBit (fw 7)) 0 ["bit"] (fun us zs => us ++ zs) := ⟨⟨_, _, fun us ws => us ++ ws, wr_calm (ok_write_DeafBit F_DeafBit_write tb_7 cN), ⟨wr_7, i_DeafBit_write, k_DeafBit_write⟩, ⟨fun s us ws _ l1 l2 => .of_eq (match us, ws, l1, l2 with | [_], [_], _, _ => rfl), fun r1 r2 => r1.append r2⟩⟩, tb_7.cl⟩
  have mw_7 : CalleeM l.prog w K mg base (L2.CX l.prog w) 4 C_DeafBit "write" ["self", "bit"] (spWr C_DeafBit e2 (fw 7)) := ⟨⟨_, _, ok_write_DeafBit F_DeafBit_write tb_7 cN, ⟨wr_7, i_DeafBit_write, k_DeafBit_write⟩, b_DeafBit_write⟩, tb_7.cl⟩
  have md_7 : CalleeM l.prog w K mg base CX0 9 C_DeafBit "deed" ["self"] (spDe C_DeafBit (gd 7) (fdd 7)) := ⟨⟨_, _, ok_deed (k := 8) F_Bit_deed, ⟨de_7, i_Bit_deed, k_Bit_deed⟩, b_Bit_deed⟩, tb_7.cl⟩
  have fi_7 : FnOk l.prog w K mg base (L2.CX l.prog w) 4 f_Bit___init__ _ ["self", "value"] (spInit C_DeafBit e2) := ok_init FD tb_7 cN
  have fam_7 : Fam l.prog w K mg base (pick [C_Bit, C_TakenBit, C_ClearedBit, C_ZeroClearedBit, C_SetBit, C_FlippedBit, C_OnceBit, C_DeafBit, C_RaisedBit, C_EndedBit, C_DriftingBit, C_EventBit, C_TakenEventBit, C_StartBit, C_GaugeBit, C_SealedBit, C_KindBit]) e2 7 := { tb := tb_7, m_read := mr_7, k_write := kw_7, m_write := mw_7, m_deed := md_7, p_now := pn_7, p_state := ps_7, m_make := ⟨⟨_, _, fi_7, ⟨mk_DeafBit, in_7, i_Bit___init__, kc_DeafBit⟩, PySem.W.mg_of X G aC_DeafBit, bd2⟩⟩ }
  have mr_8 : CalleeM l.prog w K mg base CX0 5 C_RaisedBit "read" ["self"] (spRd C_RaisedBit (fr 8)) := ⟨⟨_, _, (ok_read F_Bit_read tb_8 pn_8).mono (by decide), ⟨rd_8, i_Bit_read, k_Bit_read⟩, b_Bit_read⟩, tb_8.cl⟩
  have kw_8 : CalleeMK l.prog w K mg base 4 C_RaisedBit "write" ["self", "bit"] (spWr0 C_RaisedBit (fw 8)) 0 ["bit"] (fun us zs => us ++ zs) := ⟨⟨_, _, fun us ws => us ++ ws, wr_calm (ok_write_Bit F_Bit_write tb_8 cN), ⟨wr_8, i_Bit_write, k_Bit_write⟩, ⟨fun s us ws _ l1 l2 => .of_eq (match us, ws, l1, l2 with | [_], [_], _, _ => rfl), fun r1 r2 => r1.append r2⟩⟩, tb_8.cl⟩
  have mw_8 : CalleeM l.prog w K mg base (L2.CX l.prog w) 4 C_RaisedBit "write" ["self", "bit"] (spWr C_RaisedBit e2 (fw 8)) := ⟨⟨_, _, ok_write_Bit F_Bit_write tb_8 cN, ⟨wr_8, i_Bit_write, k_Bit_write⟩, b_Bit_write⟩, tb_8.cl⟩
  have md_8 : CalleeM l.prog w K mg base CX0 9 C_RaisedBit "deed" ["self"] (spDe C_RaisedBit (gd 8) (fdd 8)) := ⟨⟨_, _, ok_rdeed (k := 4) SF_RaisedBit_deed tb_8 hsup pn_8 ⟨⟨_, _, su_8_RaisedBit, ti_Bit_deed, fn_Bit_deed, ok_deed (k := 6) F_Bit_deed, b_Bit_deed⟩, sb_8_RaisedBit⟩, ⟨de_8, i_RaisedBit_deed, k_RaisedBit_deed⟩, b_RaisedBit_deed⟩, tb_8.cl⟩
  have fi_8 : FnOk l.prog w K mg base (L2.CX l.prog w) 4 f_Bit___init__ _ ["self", "value"] (spInit C_RaisedBit e2) := ok_init FD tb_8 cN
  have fam_8 : Fam l.prog w K mg base (pick [C_Bit, C_TakenBit, C_ClearedBit, C_ZeroClearedBit, C_SetBit, C_FlippedBit, C_OnceBit, C_DeafBit, C_RaisedBit, C_EndedBit, C_DriftingBit, C_EventBit, C_TakenEventBit, C_StartBit, C_GaugeBit, C_SealedBit, C_KindBit]) e2 8 := { tb := tb_8, m_read := mr_8, k_write := kw_8, m_write := mw_8, m_deed := md_8, p_now := pn_8, p_state := ps_8, m_make := ⟨⟨_, _, fi_8, ⟨mk_RaisedBit, in_8, i_Bit___init__, kc_RaisedBit⟩, PySem.W.mg_of X G aC_RaisedBit, bd2⟩⟩ }
  have mr_9 : CalleeM l.prog w K mg base CX0 5 C_EndedBit "read" ["self"] (spRd C_EndedBit (fr 9)) := ⟨⟨_, _, (ok_read F_Bit_read tb_9 pn_9).mono (by decide), ⟨rd_9, i_Bit_read, k_Bit_read⟩, b_Bit_read⟩, tb_9.cl⟩
  have kw_9 : CalleeMK l.prog w K mg base 4 C_EndedBit "write" ["self", "bit"] (spWr0 C_EndedBit (fw 9)) 0 ["bit"] (fun us zs => us ++ zs) := ⟨⟨_, _, fun us ws => us ++ ws, wr_calm (ok_write_Bit F_Bit_write tb_9 cN), ⟨wr_9, i_Bit_write, k_Bit_write⟩, ⟨fun s us ws _ l1 l2 => .of_eq (match us, ws, l1, l2 with | [_], [_], _, _ => rfl), fun r1 r2 => r1.append r2⟩⟩, tb_9.cl⟩
  have mw_9 : CalleeM l.prog w K mg base (L2.CX l.prog w) 4 C_EndedBit "write" ["self", "bit"] (spWr C_EndedBit e2 (fw 9)) := ⟨⟨_, _, ok_write_Bit F_Bit_write tb_9 cN, ⟨wr_9, i_Bit_write, k_Bit_write⟩, b_Bit_write⟩, tb_9.cl⟩
  have md_9 : CalleeM l.prog w K mg base CX0 9 C_EndedBit "deed" ["self"] (spDe C_EndedBit (gd 9) (fdd 9)) := ⟨⟨_, _, ok_edeed (k := 4) SF_EndedBit_deed tb_9 hsup pn_9 ⟨⟨_, _, su_9_EndedBit, ti_Bit_deed, fn_Bit_deed, ok_deed (k := 6) F_Bit_deed, b_Bit_deed⟩, sb_9_EndedBit⟩, ⟨de_9, i_EndedBit_deed, k_EndedBit_deed⟩, b_EndedBit_deed⟩, tb_9.cl⟩
  have fi_9 : FnOk l.prog w K mg base (L2.CX l.prog w) 4 f_Bit___init__ _ ["self", "value"] (spInit C_EndedBit e2) := ok_init FD tb_9 cN
  have fam_9 : Fam l.prog w K mg base (pick [C_Bit, C_TakenBit, C_ClearedBit, C_ZeroClearedBit, C_SetBit, C_FlippedBit, C_OnceBit, C_DeafBit, C_RaisedBit, C_EndedBit, C_DriftingBit, C_EventBit, C_TakenEventBit, C_StartBit, C_GaugeBit, C_SealedBit, C_KindBit]) e2 9 := { tb := tb_9, m_read := mr_9, k_write := kw_9, m_write := mw_9, m_deed := md_9, p_now := pn_9, p_state := ps_9, m_make := ⟨⟨_, _, fi_9, ⟨mk_EndedBit, in_9, i_Bit___init__, kc_EndedBit⟩, PySem.W.mg_of X G aC_EndedBit, bd2⟩⟩ }
  have mr_10 : CalleeM l.prog w K mg base CX0 5 C_DriftingBit "read" ["self"] (spRd C_DriftingBit (fr 10)) := ⟨⟨_, _, (ok_read F_Bit_read tb_10 pn_10).mono (by decide), ⟨rd_10, i_Bit_read, k_Bit_read⟩, b_Bit_read⟩, tb_10.cl⟩
  have kw_10 : CalleeMK l.prog w K mg base 4 C_DriftingBit "write" ["self", "bit"] (spWr0 C_DriftingBit (fw 10)) 0 ["bit"] (fun us zs => us ++ zs) := ⟨⟨_, _, fun us ws => us ++ ws, wr_calm (ok_write_Bit F_Bit_write tb_10 cN), ⟨wr_10, i_Bit_write, k_Bit_write⟩, ⟨fun s us ws _ l1 l2 => .of_eq (match us, ws, l1, l2 with | [_], [_], _, _ => rfl), fun r1 r2 => r1.append r2⟩⟩, tb_10.cl⟩
  have mw_10 : CalleeM l.prog w K mg base (L2.CX l.prog w) 4 C_DriftingBit "write" ["self", "bit"] (spWr C_DriftingBit e2 (fw 10)) := ⟨⟨_, _, ok_write_Bit F_Bit_write tb_10 cN, ⟨wr_10, i_Bit_write, k_Bit_write⟩, b_Bit_write⟩, tb_10.cl⟩
  have md_10 : CalleeM l.prog w K mg base CX0 9 C_DriftingBit "deed" ["self"] (spDe C_DriftingBit (gd 10) (fdd 10)) := ⟨⟨_, _, ok_rdeed (k := 4) SF_RaisedBit_deed tb_10 hsup pn_10 ⟨⟨_, _, su_10_RaisedBit, ti_EndedBit_deed, fn_EndedBit_deed, (ok_edeed (k := 2) SF_EndedBit_deed tb_10 hsup pn_10 ⟨⟨_, _, su_10_EndedBit, ti_Bit_deed, fn_Bit_deed, ok_deed (k := 4) F_Bit_deed, b_Bit_deed⟩, sb_10_EndedBit⟩), b_EndedBit_deed⟩, sb_10_RaisedBit⟩, ⟨de_10, i_RaisedBit_deed, k_RaisedBit_deed⟩, b_RaisedBit_deed⟩, tb_10.cl⟩
  have fi_10 : FnOk l.prog w K mg base (L2.CX l.prog w) 4 f_Bit___init__ _ ["self", "value"] (spInit C_DriftingBit e2) := ok_init FD tb_10 cN
  have fam_10 : Fam l.prog w K mg base (pick [C_Bit, C_TakenBit, C_ClearedBit, C_ZeroClearedBit, C_SetBit, C_FlippedBit, C_OnceBit, C_DeafBit, C_RaisedBit, C_EndedBit, C_DriftingBit, C_EventBit, C_TakenEventBit, C_StartBit, C_GaugeBit, C_SealedBit, C_KindBit]) e2 10 := { tb := tb_10, m_read := mr_10, k_write := kw_10, m_write := mw_10, m_deed := md_10, p_now := pn_10, p_state := ps_10, m_make := ⟨⟨_, _, fi_10, ⟨mk_DriftingBit, in_10, i_Bit___init__, kc_DriftingBit⟩, PySem.W.mg_of X G aC_DriftingBit, bd2⟩⟩ }
  have mr_11 : CalleeM l.prog w K mg base CX0 5 C_EventBit "read" ["self"] (spRd C_EventBit (fr 11)) := ⟨⟨_, _, (ok_read F_Bit_read tb_11 pn_11).mono (by decide), ⟨rd_11, i_Bit_read, k_Bit_read⟩, b_Bit_read⟩, tb_11.cl⟩
  have kw_11 : CalleeMK l.prog w K mg base 4 C_EventBit "write" ["self", "bit"] (spWr0 C_EventBit (fw 11)) 0 ["bit"] (fun us zs => us ++ zs) := ⟨⟨_, _, fun us ws => us ++ ws, wr_calm (ok_write_ClearedBit F_ClearedBit_write tb_11 cN), ⟨wr_11, i_ClearedBit_write, k_ClearedBit_write⟩, ⟨fun s us ws _ l1 l2 => .of_eq (match us, ws, l1, l2 with | [_], [_], _, _ => rfl), fun r1 r2 => r1.append r2⟩⟩, tb_11.cl⟩
  have mw_11 : CalleeM l.prog w K mg base (L2.CX l.prog w) 4 C_EventBit "write" ["self", "bit"] (spWr C_EventBit e2 (fw 11)) := ⟨⟨_, _, ok_write_ClearedBit F_ClearedBit_write tb_11 cN, ⟨wr_11, i_ClearedBit_write, k_ClearedBit_write⟩, b_ClearedBit_write⟩, tb_11.cl⟩
  have md_11 : CalleeM l.prog w K mg base CX0 9 C_EventBit "deed" ["self"] (spDe C_EventBit (gd 11) (fdd 11)) := ⟨⟨_, _, ok_rdeed (k := 4) SF_RaisedBit_deed tb_11 hsup pn_11 ⟨⟨_, _, su_11_RaisedBit, ti_Bit_deed, fn_Bit_deed, ok_deed (k := 6) F_Bit_deed, b_Bit_deed⟩, sb_11_RaisedBit⟩, ⟨de_11, i_RaisedBit_deed, k_RaisedBit_deed⟩, b_RaisedBit_deed⟩, tb_11.cl⟩
  have fi_11 : FnOk l.prog w K mg base (L2.CX l.prog w) 4 f_Bit___init__ _ ["self", "value"] (spInit C_EventBit e2) := ok_init FD tb_11 cN
  have fam_11 : Fam l.prog w K mg base (pick [C_Bit, C_TakenBit, C_ClearedBit, C_ZeroClearedBit, C_SetBit, C_FlippedBit, C_OnceBit, C_DeafBit, C_RaisedBit, C_EndedBit, C_DriftingBit, C_EventBit, C_TakenEventBit, C_StartBit, C_GaugeBit, C_SealedBit, C_KindBit]) e2 11 := { tb := tb_11, m_read := mr_11, k_write := kw_11, m_write := mw_11, m_deed := md_11, p_now := pn_11, p_state := ps_11, m_make := ⟨⟨_, _, fi_11, ⟨mk_EventBit, in_11, i_Bit___init__, kc_EventBit⟩, PySem.W.mg_of X G aC_EventBit, bd2⟩⟩ }
  have mr_12 : CalleeM l.prog w K mg base CX0 5 C_TakenEventBit "read" ["self"] (spRd C_TakenEventBit (fr 12)) := ⟨⟨_, _, ok_tread SF_TakenBit_read tb_12 hsup ⟨⟨_, _, su_12_TakenBit, ti_Bit_read, fn_Bit_read, ok_read F_Bit_read tb_12 pn_12, b_Bit_read⟩, sb_12_TakenBit⟩, ⟨rd_12, i_TakenBit_read, k_TakenBit_read⟩, b_TakenBit_read⟩, tb_12.cl⟩
  have kw_12 : CalleeMK l.prog w K mg base 4 C_TakenEventBit "write" ["self", "bit"] (spWr0 C_TakenEventBit (fw 12)) 0 ["bit"] (fun us zs => us ++ zs) := ⟨⟨_, _, fun us ws => us ++ ws, wr_calm (ok_write_DeafBit F_DeafBit_write tb_12 cN), ⟨wr_12, i_DeafBit_write, k_DeafBit_write⟩, ⟨fun s us ws _ l1 l2 => .of_eq (match us, ws, l1, l2 with | [_], [_], _, _ => rfl), fun r1 r2 => r1.append r2⟩⟩, tb_12.cl⟩
  have mw_12 : CalleeM l.prog w K mg base (L2.CX l.prog w) 4 C_TakenEventBit "write" ["self", "bit"] (spWr C_TakenEventBit e2 (fw 12)) := ⟨⟨_, _, ok_write_DeafBit F_DeafBit_write tb_12 cN, ⟨wr_12, i_DeafBit_write, k_DeafBit_write⟩, b_DeafBit_write⟩, tb_12.cl⟩
  have md_12 : CalleeM l.prog w K mg base CX0 9 C_TakenEventBit "deed" ["self"] (spDe C_TakenEventBit (gd 12) (fdd 12)) := ⟨⟨_, _, ok_rdeed (k := 4) SF_RaisedBit_deed tb_12 hsup pn_12 ⟨⟨_, _, su_12_RaisedBit, ti_Bit_deed, fn_Bit_deed, ok_deed (k := 6) F_Bit_deed, b_Bit_deed⟩, sb_12_RaisedBit⟩, ⟨de_12, i_RaisedBit_deed, k_RaisedBit_deed⟩, b_RaisedBit_deed⟩, tb_12.cl⟩
  have fi_12 : FnOk l.prog w K mg base (L2.CX l.prog w) 4 f_Bit___init__ _ ["self", "value"] (spInit C_TakenEventBit e2) := ok_init FD tb_12 cN
  have fam_12 : Fam l.prog w K mg base (pick [C_Bit, C_TakenBit, C_ClearedBit, C_ZeroClearedBit, C_SetBit, C_FlippedBit, C_OnceBit, C_DeafBit, C_RaisedBit, C_EndedBit, C_DriftingBit, C_EventBit, C_TakenEventBit, C_StartBit, C_GaugeBit, C_SealedBit, C_KindBit]) e2 12 := { tb := tb_12, m_read := mr_12, k_write := kw_12, m_write := mw_12, m_deed := md_12, p_now := pn_12, p_state := ps_12, m_make := ⟨⟨_, _, fi_12, ⟨mk_TakenEventBit, in_12, i_Bit___init__, kc_TakenEventBit⟩, PySem.W.mg_of X G aC_TakenEventBit, bd2⟩⟩ }
  have mr_13 : CalleeM l.prog w K mg base CX0 5 C_StartBit "read" ["self"] (spRd C_StartBit (fr 13)) := ⟨⟨_, _, (ok_read F_Bit_read tb_13 pn_13).mono (by decide), ⟨rd_13, i_Bit_read, k_Bit_read⟩, b_Bit_read⟩, tb_13.cl⟩
  have kw_13 : CalleeMK l.prog w K mg base 4 C_StartBit "write" ["self", "bit"] (spWr0 C_StartBit (fw 13)) 0 ["bit"] (fun us zs => us ++ zs) := ⟨⟨_, _, fun us ws => us ++ ws, wr_calm (ok_write_SetBit F_SetBit_write tb_13 cN), ⟨wr_13, i_SetBit_write, k_SetBit_write⟩, ⟨fun s us ws _ l1 l2 => .of_eq (match us, ws, l1, l2 with | [_], [_], _, _ => rfl), fun r1 r2 => r1.append r2⟩⟩, tb_13.cl⟩
  have mw_13 : CalleeM l.prog w K mg base (L2.CX l.prog w) 4 C_StartBit "write" ["self", "bit"] (spWr C_StartBit e2 (fw 13)) := ⟨⟨_, _, ok_write_SetBit F_SetBit_write tb_13 cN, ⟨wr_13, i_SetBit_write, k_SetBit_write⟩, b_SetBit_write⟩, tb_13.cl⟩
  have md_13 : CalleeM l.prog w K mg base CX0 9 C_StartBit "deed" ["self"] (spDe C_StartBit (gd 13) (fdd 13)) := ⟨⟨_, _, ok_edeed (k := 4) SF_EndedBit_deed tb_13 hsup pn_13 ⟨⟨_, _, su_13_EndedBit, ti_Bit_deed, fn_Bit_deed, ok_deed (k := 6) F_Bit_deed, b_Bit_deed⟩, sb_13_EndedBit⟩, ⟨de_13, i_EndedBit_deed, k_EndedBit_deed⟩, b_EndedBit_deed⟩, tb_13.cl⟩
  have fi_13 : FnOk l.prog w K mg base (L2.CX l.prog w) 4 f_Bit___init__ _ ["self", "value"] (spInit C_StartBit e2) := ok_init FD tb_13 cN
  have fam_13 : Fam l.prog w K mg base (pick [C_Bit, C_TakenBit, C_ClearedBit, C_ZeroClearedBit, C_SetBit, C_FlippedBit, C_OnceBit, C_DeafBit, C_RaisedBit, C_EndedBit, C_DriftingBit, C_EventBit, C_TakenEventBit, C_StartBit, C_GaugeBit, C_SealedBit, C_KindBit]) e2 13 := { tb := tb_13, m_read := mr_13, k_write := kw_13, m_write := mw_13, m_deed := md_13, p_now := pn_13, p_state := ps_13, m_make := ⟨⟨_, _, fi_13, ⟨mk_StartBit, in_13, i_Bit___init__, kc_StartBit⟩, PySem.W.mg_of X G aC_StartBit, bd2⟩⟩ }
  have mr_14 : CalleeM l.prog w K mg base CX0 5 C_GaugeBit "read" ["self"] (spRd C_GaugeBit (fr 14)) := ⟨⟨_, _, (ok_read F_Bit_read tb_14 pn_14).mono (by decide), ⟨rd_14, i_Bit_read, k_Bit_read⟩, b_Bit_read⟩, tb_14.cl⟩
  have kw_14 : CalleeMK l.prog w K mg base 4 C_GaugeBit "write" ["self", "bit"] (spWr0 C_GaugeBit (fw 14)) 0 ["bit"] (fun us zs => us ++ zs) := ⟨⟨_, _, fun us ws => us ++ ws, wr_calm (ok_write_DeafBit F_DeafBit_write tb_14 cN), ⟨wr_14, i_DeafBit_write, k_DeafBit_write⟩, ⟨fun s us ws _ l1 l2 => .of_eq (match us, ws, l1, l2 with | [_], [_], _, _ => rfl), fun r1 r2 => r1.append r2⟩⟩, tb_14.cl⟩
  have mw_14 : CalleeM l.prog w K mg base (L2.CX l.prog w) 4 C_GaugeBit "write" ["self", "bit"] (spWr C_GaugeBit e2 (fw 14)) := ⟨⟨_, _, ok_write_DeafBit F_DeafBit_write tb_14 cN, ⟨wr_14, i_DeafBit_write, k_DeafBit_write⟩, b_DeafBit_write⟩, tb_14.cl⟩
  have md_14 : CalleeM l.prog w K mg base CX0 9 C_GaugeBit "deed" ["self"] (spDe C_GaugeBit (gd 14) (fdd 14)) := ⟨⟨_, _, ok_rdeed (k := 4) SF_RaisedBit_deed tb_14 hsup pn_14 ⟨⟨_, _, su_14_RaisedBit, ti_EndedBit_deed, fn_EndedBit_deed, (ok_edeed (k := 2) SF_EndedBit_deed tb_14 hsup pn_14 ⟨⟨_, _, su_14_EndedBit, ti_Bit_deed, fn_Bit_deed, ok_deed (k := 4) F_Bit_deed, b_Bit_deed⟩, sb_14_EndedBit⟩), b_EndedBit_deed⟩, sb_14_RaisedBit⟩, ⟨de_14, i_RaisedBit_deed, k_RaisedBit_deed⟩, b_RaisedBit_deed⟩, tb_14.cl⟩
  have fi_14 : FnOk l.prog w K mg base (L2.CX l.prog w) 4 f_Bit___init__ _ ["self", "value"] (spInit C_GaugeBit e2) := ok_init FD tb_14 cN
  have fam_14 : Fam l.prog w K mg base (pick [C_Bit, C_TakenBit, C_ClearedBit, C_ZeroClearedBit, C_SetBit, C_FlippedBit, C_OnceBit, C_DeafBit, C_RaisedBit, C_EndedBit, C_DriftingBit, C_EventBit, C_TakenEventBit, C_StartBit, C_GaugeBit, C_SealedBit, C_KindBit]) e2 14 := { tb := tb_14, m_read := mr_14, k_write := kw_14, m_write := mw_14, m_deed := md_14, p_now := pn_14, p_state := ps_14, m_make := ⟨⟨_, _, fi_14, ⟨mk_GaugeBit, in_14, i_Bit___init__, kc_GaugeBit⟩, PySem.W.mg_of X G aC_GaugeBit, bd2⟩⟩ }
  have mr_15 : CalleeM l.prog w K mg base CX0 5 C_SealedBit "read" ["self"] (spRd C_SealedBit (fr 15)) := ⟨⟨_, _, ok_tread SF_TakenBit_read tb_15 hsup ⟨⟨_, _, su_15_TakenBit, ti_Bit_read, fn_Bit_read, ok_read F_Bit_read tb_15 pn_15, b_Bit_read⟩, sb_15_TakenBit⟩, ⟨rd_15, i_TakenBit_read, k_TakenBit_read⟩, b_TakenBit_read⟩, tb_15.cl⟩
  have kw_15 : CalleeMK l.prog w K mg base 4 C_SealedBit "write" ["self", "bit"] (spWr0 C_SealedBit (fw 15)) 0 ["bit"] (fun us zs => us ++ zs) := ⟨⟨_, _, fun us ws => us ++ ws, wr_calm (ok_write_OnceBit F_OnceBit_write tb_15 cN), ⟨wr_15, i_OnceBit_write, k_OnceBit_write⟩, ⟨fun s us ws _ l1 l2 => .of_eq (match us, ws, l1, l2 with | [_], [_], _, _ => rfl), fun r1 r2 => r1.append r2⟩⟩, tb_15.cl⟩
  have mw_15 : CalleeM l.prog w K mg base (L2.CX l.prog w) 4 C_SealedBit "write" ["self", "bit"] (spWr C_SealedBit e2 (fw 15)) := ⟨⟨_, _, ok_write_OnceBit F_OnceBit_write tb_15 cN, ⟨wr_15, i_OnceBit_write, k_OnceBit_write⟩, b_OnceBit_write⟩, tb_15.cl⟩
  have md_15 : CalleeM l.prog w K mg base CX0 9 C_SealedBit "deed" ["self"] (spDe C_SealedBit (gd 15) (fdd 15)) := ⟨⟨_, _, ok_deed (k := 8) F_Bit_deed, ⟨de_15, i_Bit_deed, k_Bit_deed⟩, b_Bit_deed⟩, tb_15.cl⟩
  have fi_15 : FnOk l.prog w K mg base (L2.CX l.prog w) 4 f_Bit___init__ _ ["self", "value"] (spInit C_SealedBit e2) := ok_init FD tb_15 cN
  have fam_15 : Fam l.prog w K mg base (pick [C_Bit, C_TakenBit, C_ClearedBit, C_ZeroClearedBit, C_SetBit, C_FlippedBit, C_OnceBit, C_DeafBit, C_RaisedBit, C_EndedBit, C_DriftingBit, C_EventBit, C_TakenEventBit, C_StartBit, C_GaugeBit, C_SealedBit, C_KindBit]) e2 15 := { tb := tb_15, m_read := mr_15, k_write := kw_15, m_write := mw_15, m_deed := md_15, p_now := pn_15, p_state := ps_15, m_make := ⟨⟨_, _, fi_15, ⟨mk_SealedBit, in_15, i_Bit___init__, kc_SealedBit⟩, PySem.W.mg_of X G aC_SealedBit, bd2⟩⟩ }
  have FM : ∀ i : Fin 16, Fam l.prog w K mg base (pick [C_Bit, C_TakenBit, C_ClearedBit, C_ZeroClearedBit, C_SetBit, C_FlippedBit, C_OnceBit, C_DeafBit, C_RaisedBit, C_EndedBit, C_DriftingBit, C_EventBit, C_TakenEventBit, C_StartBit, C_GaugeBit, C_SealedBit, C_KindBit]) e2 i.val := fun ⟨i, hi⟩ => by
    match i, hi with
    | 0, _ => exact fam_0
    | 1, _ => exact fam_1
    | 2, _ => exact fam_2
    | 3, _ => exact fam_3
    | 4, _ => exact fam_4
    | 5, _ => exact fam_5
    | 6, _ => exact fam_6
    | 7, _ => exact fam_7
    | 8, _ => exact fam_8
    | 9, _ => exact fam_9
    | 10, _ => exact fam_10
    | 11, _ => exact fam_11
    | 12, _ => exact fam_12
    | 13, _ => exact fam_13
    | 14, _ => exact fam_14
    | 15, _ => exact fam_15
    | _ + 16, h => exact absurd h (by omega)
  have fk : FnOk l.prog w K mg base (L2.CX l.prog w) 6 f_KindBit___init__ _ ["self", "kind", "value"] (spKInit ((pick [C_Bit, C_TakenBit, C_ClearedBit, C_ZeroClearedBit, C_SetBit, C_FlippedBit, C_OnceBit, C_DeafBit, C_RaisedBit, C_EndedBit, C_DriftingBit, C_EventBit, C_TakenEventBit, C_StartBit, C_GaugeBit, C_SealedBit, C_KindBit]) 16) e2) := ok_kinit SF_KindBit___init__ tb_16 n_KindBit_kind hsup ⟨⟨_, _, su_16_KindBit, ti_Bit___init__, fn_Bit___init__, ok_init FD tb_16 cN, bd2⟩, sb_16_KindBit⟩
  have mkK : Mk K C_KindBit f_KindBit___init__ := ⟨mk_KindBit, in_16, i_KindBit___init__, kc_KindBit⟩
  have cKB : CalleeI l.prog w K mg base (L2.CX l.prog w) 6 ((pick [C_Bit, C_TakenBit, C_ClearedBit, C_ZeroClearedBit, C_SetBit, C_FlippedBit, C_OnceBit, C_DeafBit, C_RaisedBit, C_EndedBit, C_DriftingBit, C_EventBit, C_TakenEventBit, C_StartBit, C_GaugeBit, C_SealedBit, C_KindBit]) 16) "KindBit" ["self", "kind", "value"] (spKInit ((pick [C_Bit, C_TakenBit, C_ClearedBit, C_ZeroClearedBit, C_SetBit, C_FlippedBit, C_OnceBit, C_DeafBit, C_RaisedBit, C_EndedBit, C_DriftingBit, C_EventBit, C_TakenEventBit, C_StartBit, C_GaugeBit, C_SealedBit, C_KindBit]) 16) e2) := ⟨⟨_, _, fk, mkK, PySem.W.mg_of X G aC_KindBit, b3_KindBit___init__⟩⟩
  have d1 : KC.CalleeID l.prog w K mg base (L2.CX l.prog w) 6 ((pick [C_Bit, C_TakenBit, C_ClearedBit, C_ZeroClearedBit, C_SetBit, C_FlippedBit, C_OnceBit, C_DeafBit, C_RaisedBit, C_EndedBit, C_DriftingBit, C_EventBit, C_TakenEventBit, C_StartBit, C_GaugeBit, C_SealedBit, C_KindBit]) 16) "KindBit" ["self", "kind", "value"] (spKInit ((pick [C_Bit, C_TakenBit, C_ClearedBit, C_ZeroClearedBit, C_SetBit, C_FlippedBit, C_OnceBit, C_DeafBit, C_RaisedBit, C_EndedBit, C_DriftingBit, C_EventBit, C_TakenEventBit, C_StartBit, C_GaugeBit, C_SealedBit, C_KindBit]) 16) e2) [.int 0] := ⟨⟨_, _, _, fk, mkK, PySem.W.mg_of X G aC_KindBit, b_KindBit___init__, .cons ⟨_, rfl⟩ .nil⟩⟩
  have mkk : CalleeIK l.prog w K mg base (L2.CX l.prog w) 6 ((pick [C_Bit, C_TakenBit, C_ClearedBit, C_ZeroClearedBit, C_SetBit, C_FlippedBit, C_OnceBit, C_DeafBit, C_RaisedBit, C_EndedBit, C_DriftingBit, C_EventBit, C_TakenEventBit, C_StartBit, C_GaugeBit, C_SealedBit, C_KindBit]) 16) "KindBit" ["self", "kind", "value"] (spKInit ((pick [C_Bit, C_TakenBit, C_ClearedBit, C_ZeroClearedBit, C_SetBit, C_FlippedBit, C_OnceBit, C_DeafBit, C_RaisedBit, C_EndedBit, C_DriftingBit, C_EventBit, C_TakenEventBit, C_StartBit, C_GaugeBit, C_SealedBit, C_KindBit]) 16) e2) ["value", "kind"] gRev := ⟨⟨_, _, fun us ws => us ++ ws.reverse, fk, mkK, PySem.W.mg_of X G aC_KindBit, kb_KindBit⟩⟩
  have mu : CalleeM l.prog w K mg base CX0 1 C_Kind "unguarded" ["self", "state", "bit"] (spUng C_Kind) := ⟨⟨_, _, ok_unguarded F_Kind_unguarded TK, ⟨a_Kind_unguarded, i_Kind_unguarded, k_Kind_unguarded⟩, b_Kind_unguarded⟩, cK⟩
  have mw : CalleeM l.prog w K mg base CX0 2 C_Kind "after_write" ["self", "state", "bit"] (spWrite C_Kind) := ⟨⟨_, _, ok_after_write (k := 0) (j := 0) F_Kind_after_write TK mu, ⟨a_Kind_after_write, i_Kind_after_write, k_Kind_after_write⟩, b_Kind_after_write⟩, cK⟩
  have mr : CalleeM l.prog w K mg base CX0 1 C_Kind "after_read" ["self", "state"] (spRead C_Kind) := ⟨⟨_, _, ok_after_read F_Kind_after_read TK, ⟨a_Kind_after_read, i_Kind_after_read, k_Kind_after_read⟩, b_Kind_after_read⟩, cK⟩
  have md : CalleeM l.prog w K mg base CX0 1 C_Kind "deeds" ["self", "state"] (spDeedsK C_Kind) := ⟨⟨_, _, ok_deedsK F_Kind_deeds TM, ⟨a_Kind_deeds, i_Kind_deeds, k_Kind_deeds⟩, b_Kind_deeds⟩, cK⟩
  have ci : CalleeI l.prog w K mg base CX0 1 C_Kind "Kind" ["self", "reading", "writing", "device"] (spKind C_Kind) := ⟨⟨_, _, ok_kind F_Kind___init__ TK, ⟨mk_Kind, a_Kind___init__, i_Kind___init__, kc_Kind⟩, TM.mg_Kind, b_Kind___init__⟩⟩
  have on_ : OwnNe l.prog w K mg base 1 C_Kind ["self", "other"] (spEq C_Kind) := ⟨⟨_, _, ⟨⟨_, _, _, _, _, _, _, _, _, _, _, _, _, _, _, _, lkK.trans (congrArg some lkO), nsO K nsK, neq, nne⟩, ⟨_, l_Kind___eq__, foK⟩⟩, ok_eqK F_Kind___eq__ TM, b_Kind___eq__⟩⟩
  have kbr : CalleeM l.prog w K mg base CX0 5 ((pick [C_Bit, C_TakenBit, C_ClearedBit, C_ZeroClearedBit, C_SetBit, C_FlippedBit, C_OnceBit, C_DeafBit, C_RaisedBit, C_EndedBit, C_DriftingBit, C_EventBit, C_TakenEventBit, C_StartBit, C_GaugeBit, C_SealedBit, C_KindBit]) 16) "read" ["self"] (spKRd ((pick [C_Bit, C_TakenBit, C_ClearedBit, C_ZeroClearedBit, C_SetBit, C_FlippedBit, C_OnceBit, C_DeafBit, C_RaisedBit, C_EndedBit, C_DriftingBit, C_EventBit, C_TakenEventBit, C_StartBit, C_GaugeBit, C_SealedBit, C_KindBit]) 16) C_Kind) := ⟨⟨_, _, (ok_kread F_KindBit_read tb_16 n_KindBit_kind pn_16 mr).mono (by decide), ⟨a_KindBit_read, i_KindBit_read, k_KindBit_read⟩, b_KindBit_read⟩, tb_16.cl⟩
  have kbd : CalleeM l.prog w K mg base CX0 9 ((pick [C_Bit, C_TakenBit, C_ClearedBit, C_ZeroClearedBit, C_SetBit, C_FlippedBit, C_OnceBit, C_DeafBit, C_RaisedBit, C_EndedBit, C_DriftingBit, C_EventBit, C_TakenEventBit, C_StartBit, C_GaugeBit, C_SealedBit, C_KindBit]) 16) "deed" ["self"] (spKDe ((pick [C_Bit, C_TakenBit, C_ClearedBit, C_ZeroClearedBit, C_SetBit, C_FlippedBit, C_OnceBit, C_DeafBit, C_RaisedBit, C_EndedBit, C_DriftingBit, C_EventBit, C_TakenEventBit, C_StartBit, C_GaugeBit, C_SealedBit, C_KindBit]) 16) C_Kind) := ⟨⟨_, _, (ok_kdeed F_KindBit_deed tb_16 n_KindBit_kind md).mono (by decide), ⟨a_KindBit_deed, i_KindBit_deed, k_KindBit_deed⟩, b_KindBit_deed⟩, tb_16.cl⟩
  have fkw : FnOk l.prog w K mg base (L2.CX l.prog w) 4 f_KindBit_write _ ["self", "bit"] (spKWr ((pick [C_Bit, C_TakenBit, C_ClearedBit, C_ZeroClearedBit, C_SetBit, C_FlippedBit, C_OnceBit, C_DeafBit, C_RaisedBit, C_EndedBit, C_DriftingBit, C_EventBit, C_TakenEventBit, C_StartBit, C_GaugeBit, C_SealedBit, C_KindBit]) 16) C_Kind e2) := ok_kwrite F_KindBit_write tb_16 n_KindBit_kind cN mw
  have kbw : CalleeM l.prog w K mg base (L2.CX l.prog w) 4 ((pick [C_Bit, C_TakenBit, C_ClearedBit, C_ZeroClearedBit, C_SetBit, C_FlippedBit, C_OnceBit, C_DeafBit, C_RaisedBit, C_EndedBit, C_DriftingBit, C_EventBit, C_TakenEventBit, C_StartBit, C_GaugeBit, C_SealedBit, C_KindBit]) 16) "write" ["self", "bit"] (spKWr ((pick [C_Bit, C_TakenBit, C_ClearedBit, C_ZeroClearedBit, C_SetBit, C_FlippedBit, C_OnceBit, C_DeafBit, C_RaisedBit, C_EndedBit, C_DriftingBit, C_EventBit, C_TakenEventBit, C_StartBit, C_GaugeBit, C_SealedBit, C_KindBit]) 16) C_Kind e2) := ⟨⟨_, _, fkw, ⟨a_KindBit_write, i_KindBit_write, k_KindBit_write⟩, b_KindBit_write⟩, tb_16.cl⟩
  have kbk : CalleeMK l.prog w K mg base 4 ((pick [C_Bit, C_TakenBit, C_ClearedBit, C_ZeroClearedBit, C_SetBit, C_FlippedBit, C_OnceBit, C_DeafBit, C_RaisedBit, C_EndedBit, C_DriftingBit, C_EventBit, C_TakenEventBit, C_StartBit, C_GaugeBit, C_SealedBit, C_KindBit]) 16) "write" ["self", "bit"] (spKWr0 ((pick [C_Bit, C_TakenBit, C_ClearedBit, C_ZeroClearedBit, C_SetBit, C_FlippedBit, C_OnceBit, C_DeafBit, C_RaisedBit, C_EndedBit, C_DriftingBit, C_EventBit, C_TakenEventBit, C_StartBit, C_GaugeBit, C_SealedBit, C_KindBit]) 16) C_Kind) 0 ["bit"] (fun us zs => us ++ zs) := ⟨⟨_, _, fun us ws => us ++ ws, kwr_calm fkw, ⟨a_KindBit_write, i_KindBit_write, k_KindBit_write⟩, ⟨fun s us ws _ l1 l2 => .of_eq (match us, ws, l1, l2 with | [_], [_], _, _ => rfl), fun r1 r2 => r1.append r2⟩⟩, tb_16.cl⟩
  have F7 : ∀ i : Fin 17, F17 l.prog w K mg base (pick [C_Bit, C_TakenBit, C_ClearedBit, C_ZeroClearedBit, C_SetBit, C_FlippedBit, C_OnceBit, C_DeafBit, C_RaisedBit, C_EndedBit, C_DriftingBit, C_EventBit, C_TakenEventBit, C_StartBit, C_GaugeBit, C_SealedBit, C_KindBit]) C_Kind e2 i.val := f17_all FM (f17_kb kbr kbd kbk kbw pn_16 ps_16)
  have cd : KB.Callee l.prog w K mg base CX0 1 "_law_draw" ["_law_pen_here", "_law_many"] (spDraw) := ⟨⟨_, _, ok_draw F__law_draw T0, PySem.W.mg_of X G a__law_draw, k__law_draw, b__law_draw⟩⟩
  have cp : KB.Callee l.prog w K mg base CX0 1 "_law_pen" ["_law_script"] (spPen K) := ⟨⟨_, _, ok_pen F__law_pen T0, PySem.W.mg_of X G a__law_pen, k__law_pen, b__law_pen⟩⟩
  have cb1 : KB.Callee l.prog w K mg base (L2.CX l.prog w) 6 "_law_plain_bit" ["_law_number", "_law_begin"] (spMkBit (pick [C_Bit, C_TakenBit, C_ClearedBit, C_ZeroClearedBit, C_SetBit, C_FlippedBit, C_OnceBit, C_DeafBit, C_RaisedBit, C_EndedBit, C_DriftingBit, C_EventBit, C_TakenEventBit, C_StartBit, C_GaugeBit, C_SealedBit, C_KindBit]) e2 8) := ⟨⟨_, _, ok_plain F__law_plain_bit FM, PySem.W.mg_of X G a__law_plain_bit, k__law_plain_bit, b__law_plain_bit⟩⟩
  have cb : KB.Callee l.prog w K mg base (L2.CX l.prog w) 7 "_law_bit" ["_law_number", "_law_begin"] (spMkBit (pick [C_Bit, C_TakenBit, C_ClearedBit, C_ZeroClearedBit, C_SetBit, C_FlippedBit, C_OnceBit, C_DeafBit, C_RaisedBit, C_EndedBit, C_DriftingBit, C_EventBit, C_TakenEventBit, C_StartBit, C_GaugeBit, C_SealedBit, C_KindBit]) e2 16) := ⟨⟨_, _, ok_mkbit F__law_bit FM cb1, PySem.W.mg_of X G a__law_bit, k__law_bit, b__law_bit⟩⟩
  have co : KB.Callee l.prog w K mg base CX0 1 "_law_words_of" ["_law_number"] (spWordsOf) := ⟨⟨_, _, ok_wordsof F__law_words_of T0, PySem.W.mg_of X G a__law_words_of, k__law_words_of, b__law_words_of⟩⟩
  have cod : KB.Callee l.prog w K mg base CX0 2 "_law_odd" ["_law_pen_here"] (spOdd) := ⟨⟨_, _, ok_odd F__law_odd T0 cd, PySem.W.mg_of X G a__law_odd, k__law_odd, b__law_odd⟩⟩
  have hc : HeardC K mg := ⟨⟨f__law_heard, _, _, _, _, _, _, _, _, _, PySem.W.mg_of X G a__law_heard, k__law_heard, l__law_heard, c__law_heard, b__law_heard⟩⟩
  have ca : KG.CalleeG l.prog w K mg base CX0 11 "_law_act" ["_law_one", "_law_pick", "_law_thing"] (spAct (pick [C_Bit, C_TakenBit, C_ClearedBit, C_ZeroClearedBit, C_SetBit, C_FlippedBit, C_OnceBit, C_DeafBit, C_RaisedBit, C_EndedBit, C_DriftingBit, C_EventBit, C_TakenEventBit, C_StartBit, C_GaugeBit, C_SealedBit, C_KindBit]) C_Kind (TT2 PA PC)) := ⟨⟨_, _, ok_act (c := errsOf e0 e1 e2 e3 e4 e5) (cl := (pick [C_Bit, C_TakenBit, C_ClearedBit, C_ZeroClearedBit, C_SetBit, C_FlippedBit, C_OnceBit, C_DeafBit, C_RaisedBit, C_EndedBit, C_DriftingBit, C_EventBit, C_TakenEventBit, C_StartBit, C_GaugeBit, C_SealedBit, C_KindBit])) l__law_act c__law_act T0 TE EA2 hc npac (tb (cA, PA) (List.mem_cons_self ..)) F7, PySem.W.mg_of X G a__law_act, k__law_act, b__law_act⟩⟩
  have cc : KG.CalleeG l.prog w K mg base CX0 14 "_law_class_right" ["_law_pen_here", "_law_number"] (spClass (TT2 PA PC)) := ⟨⟨_, _, ok_class (c := errsOf e0 e1 e2 e3 e4 e5) (cl := (pick [C_Bit, C_TakenBit, C_ClearedBit, C_ZeroClearedBit, C_SetBit, C_FlippedBit, C_OnceBit, C_DeafBit, C_RaisedBit, C_EndedBit, C_DriftingBit, C_EventBit, C_TakenEventBit, C_StartBit, C_GaugeBit, C_SealedBit, C_KindBit])) l__law_class_right c__law_class_right T0 TE EA2 hc npac (tb (cC, PC) (List.mem_cons_of_mem _ (List.mem_cons_self ..))) F7 tb_16 n_KindBit_kind ca cb cKB d1 mkk ci on_ co cd cod, PySem.W.mg_of X G a__law_class_right, k__law_class_right, b__law_class_right⟩⟩
  exact ok_law F_law T0 cc cd cp
end K10


open PySem PySem.W PyProof.Rows
set_option maxRecDepth 100000 in
set_option maxHeartbeats 0 in
theorem PySem.Challenge.cw_keptbits_k10_bits_of_kinds_beside_the_fa_holds : PySem.Challenge.rw_keptbits_k10_bits_of_kinds_beside_the_fa.Holds := by
  w_on; o_law; k_head; (case hw => w_witness2)
  k_fill
  refine KL.walkGT (l := PySem.Challenge.rw_keptbits_k10_bits_of_kinds_beside_the_fa) (n := 63) (k := 15) (x := "_law_script") (names := ["_law_act", "_law_class_right"]) (sp := fun w cs => K10.spLaw _ cs) rfl (by decide) rfl ⟨rfl, by decide, by decide⟩ ?R (fun w h Y => PySem.W.km_in_of Y) ?F (fun _ _ a cs ns hl hT hS => ⟨a, ns, rfl, hS, hl, hT, fun _ => rfl⟩)
  case R => exact rfl
  case F =>
    intro w mg fa h KX G hmg
    refine' K10.all_mk KX G hmg ?aC_Bit ?pg_Bit ?hd_Bit ?po_Bit ?sa_Bit ?mk_Bit ?kc_Bit ?n_Bit_held ?aC_TakenBit ?pg_TakenBit ?hd_TakenBit ?po_TakenBit ?sa_TakenBit ?mk_TakenBit ?kc_TakenBit ?n_TakenBit_held ?aC_ClearedBit ?pg_ClearedBit ?hd_ClearedBit ?po_ClearedBit ?sa_ClearedBit ?mk_ClearedBit ?kc_ClearedBit ?n_ClearedBit_held ?aC_ZeroClearedBit ?pg_ZeroClearedBit ?hd_ZeroClearedBit ?po_ZeroClearedBit ?sa_ZeroClearedBit ?mk_ZeroClearedBit ?kc_ZeroClearedBit ?n_ZeroClearedBit_held ?aC_SetBit ?pg_SetBit ?hd_SetBit ?po_SetBit ?sa_SetBit ?mk_SetBit ?kc_SetBit ?n_SetBit_held ?aC_FlippedBit ?pg_FlippedBit ?hd_FlippedBit ?po_FlippedBit ?sa_FlippedBit ?mk_FlippedBit ?kc_FlippedBit ?n_FlippedBit_held ?aC_OnceBit ?pg_OnceBit ?hd_OnceBit ?po_OnceBit ?sa_OnceBit ?mk_OnceBit ?kc_OnceBit ?n_OnceBit_held ?aC_DeafBit ?pg_DeafBit ?hd_DeafBit ?po_DeafBit ?sa_DeafBit ?mk_DeafBit ?kc_DeafBit ?n_DeafBit_held ?aC_RaisedBit ?pg_RaisedBit ?hd_RaisedBit ?po_RaisedBit ?sa_RaisedBit ?mk_RaisedBit ?kc_RaisedBit ?n_RaisedBit_held ?aC_EndedBit ?pg_EndedBit ?hd_EndedBit ?po_EndedBit ?sa_EndedBit ?mk_EndedBit ?kc_EndedBit ?n_EndedBit_held ?aC_DriftingBit ?pg_DriftingBit ?hd_DriftingBit ?po_DriftingBit ?sa_DriftingBit ?mk_DriftingBit ?kc_DriftingBit ?n_DriftingBit_held ?aC_EventBit ?pg_EventBit ?hd_EventBit ?po_EventBit ?sa_EventBit ?mk_EventBit ?kc_EventBit ?n_EventBit_held ?aC_TakenEventBit ?pg_TakenEventBit ?hd_TakenEventBit ?po_TakenEventBit ?sa_TakenEventBit ?mk_TakenEventBit ?kc_TakenEventBit ?n_TakenEventBit_held ?aC_StartBit ?pg_StartBit ?hd_StartBit ?po_StartBit ?sa_StartBit ?mk_StartBit ?kc_StartBit ?n_StartBit_held ?aC_GaugeBit ?pg_GaugeBit ?hd_GaugeBit ?po_GaugeBit ?sa_GaugeBit ?mk_GaugeBit ?kc_GaugeBit ?n_GaugeBit_held ?aC_SealedBit ?pg_SealedBit ?hd_SealedBit ?po_SealedBit ?sa_SealedBit ?mk_SealedBit ?kc_SealedBit ?n_SealedBit_held ?aC_KindBit ?pg_KindBit ?hd_KindBit ?po_KindBit ?sa_KindBit ?mk_KindBit ?kc_KindBit ?n_KindBit_held ?n_KindBit_kind ?aC_Kind ?pg_Kind ?hd_Kind ?po_Kind ?sa_Kind ?mk_Kind ?kc_Kind ?n_Kind_reading ?n_Kind_writing ?n_Kind_device ?n_Kind_states ?rd_Kind ?ga_Kind ?fc_t_Kind_READINGS ?lk_t_Kind_READINGS ?fc_t_Kind_WRITINGS ?lk_t_Kind_WRITINGS ?fc_t_Kind_DEVICES ?lk_t_Kind_DEVICES ?a_is_integer ?l_is_integer ?c_is_integer ?k_is_integer ?a_need_bit ?l_need_bit ?c_need_bit ?k_need_bit ?a_Bit___init__ ?i_Bit___init__ ?l_Bit___init__ ?dt_Bit___init__ ?c_Bit___init__ ?k_Bit___init__ ?pa_Bit_now ?pb_Bit_now ?pc_Bit_now ?pd_Bit_now ?l_Bit_now ?c_Bit_now ?k_Bit_now ?pa_Bit_state ?pb_Bit_state ?pc_Bit_state ?pd_Bit_state ?l_Bit_state ?c_Bit_state ?k_Bit_state ?a_Bit_read ?i_Bit_read ?l_Bit_read ?c_Bit_read ?k_Bit_read ?a_Bit_write ?i_Bit_write ?l_Bit_write ?c_Bit_write ?k_Bit_write ?a_Bit_deed ?i_Bit_deed ?l_Bit_deed ?c_Bit_deed ?k_Bit_deed ?a_ClearedBit_write ?i_ClearedBit_write ?l_ClearedBit_write ?c_ClearedBit_write ?k_ClearedBit_write ?a_ZeroClearedBit_write ?i_ZeroClearedBit_write ?l_ZeroClearedBit_write ?c_ZeroClearedBit_write ?k_ZeroClearedBit_write ?a_SetBit_write ?i_SetBit_write ?l_SetBit_write ?c_SetBit_write ?k_SetBit_write ?a_FlippedBit_write ?i_FlippedBit_write ?l_FlippedBit_write ?c_FlippedBit_write ?k_FlippedBit_write ?a_OnceBit_write ?i_OnceBit_write ?l_OnceBit_write ?c_OnceBit_write ?k_OnceBit_write ?a_DeafBit_write ?i_DeafBit_write ?l_DeafBit_write ?c_DeafBit_write ?k_DeafBit_write ?a_KindBit_read ?i_KindBit_read ?l_KindBit_read ?c_KindBit_read ?k_KindBit_read ?a_KindBit_write ?i_KindBit_write ?l_KindBit_write ?c_KindBit_write ?k_KindBit_write ?a_KindBit_deed ?i_KindBit_deed ?l_KindBit_deed ?c_KindBit_deed ?k_KindBit_deed ?a_Kind___init__ ?i_Kind___init__ ?l_Kind___init__ ?c_Kind___init__ ?k_Kind___init__ ?a_Kind_after_read ?i_Kind_after_read ?l_Kind_after_read ?c_Kind_after_read ?k_Kind_after_read ?a_Kind_after_write ?i_Kind_after_write ?l_Kind_after_write ?c_Kind_after_write ?k_Kind_after_write ?a_Kind_unguarded ?i_Kind_unguarded ?l_Kind_unguarded ?c_Kind_unguarded ?k_Kind_unguarded ?a_Kind_deeds ?i_Kind_deeds ?l_Kind_deeds ?c_Kind_deeds ?k_Kind_deeds ?a_Kind___eq__ ?i_Kind___eq__ ?l_Kind___eq__ ?c_Kind___eq__ ?k_Kind___eq__ ?a__law_pen ?l__law_pen ?c__law_pen ?k__law_pen ?a__law_draw ?l__law_draw ?c__law_draw ?k__law_draw ?a__law_heard ?l__law_heard ?c__law_heard ?k__law_heard ?a__law_plain_bit ?l__law_plain_bit ?c__law_plain_bit ?k__law_plain_bit ?a__law_bit ?l__law_bit ?c__law_bit ?k__law_bit ?a__law_words_of ?l__law_words_of ?c__law_words_of ?k__law_words_of ?a__law_odd ?l__law_odd ?c__law_odd ?k__law_odd ?a__law_act ?l__law_act ?c__law_act ?k__law_act ?a__law_class_right ?l__law_class_right ?c__law_class_right ?k__law_class_right ?a_law ?l_law ?c_law ?k_law ?in_0 ?nw_0 ?st_0 ?rd_0 ?wr_0 ?de_0 ?in_1 ?nw_1 ?st_1 ?rd_1 ?wr_1 ?de_1 ?in_2 ?nw_2 ?st_2 ?rd_2 ?wr_2 ?de_2 ?in_3 ?nw_3 ?st_3 ?rd_3 ?wr_3 ?de_3 ?in_4 ?nw_4 ?st_4 ?rd_4 ?wr_4 ?de_4 ?in_5 ?nw_5 ?st_5 ?rd_5 ?wr_5 ?de_5 ?in_6 ?nw_6 ?st_6 ?rd_6 ?wr_6 ?de_6 ?in_7 ?nw_7 ?st_7 ?rd_7 ?wr_7 ?de_7 ?in_8 ?nw_8 ?st_8 ?rd_8 ?wr_8 ?de_8 ?in_9 ?nw_9 ?st_9 ?rd_9 ?wr_9 ?de_9 ?in_10 ?nw_10 ?st_10 ?rd_10 ?wr_10 ?de_10 ?in_11 ?nw_11 ?st_11 ?rd_11 ?wr_11 ?de_11 ?in_12 ?nw_12 ?st_12 ?rd_12 ?wr_12 ?de_12 ?in_13 ?nw_13 ?st_13 ?rd_13 ?wr_13 ?de_13 ?in_14 ?nw_14 ?st_14 ?rd_14 ?wr_14 ?de_14 ?in_15 ?nw_15 ?st_15 ?rd_15 ?wr_15 ?de_15 ?in_16 ?nw_16 ?st_16 ?l_TakenBit_read ?c_TakenBit_read ?ld_TakenBit_read ?vs2_TakenBit_read ?fi2_TakenBit_read ?lc_TakenBit_read ?dcl_TakenBit_read ?i_TakenBit_read ?k_TakenBit_read ?l_RaisedBit_deed ?c_RaisedBit_deed ?ld_RaisedBit_deed ?vs2_RaisedBit_deed ?fi2_RaisedBit_deed ?lc_RaisedBit_deed ?dcl_RaisedBit_deed ?i_RaisedBit_deed ?k_RaisedBit_deed ?l_EndedBit_deed ?c_EndedBit_deed ?ld_EndedBit_deed ?vs2_EndedBit_deed ?fi2_EndedBit_deed ?lc_EndedBit_deed ?dcl_EndedBit_deed ?i_EndedBit_deed ?k_EndedBit_deed ?l_KindBit___init__ ?c_KindBit___init__ ?ld_KindBit___init__ ?vs2_KindBit___init__ ?fi2_KindBit___init__ ?lc_KindBit___init__ ?dcl_KindBit___init__ ?i_KindBit___init__ ?k_KindBit___init__ ?dt_KindBit___init__ ?tpI ?opI ?ti_Bit_read ?fn_Bit_read ?ti_Bit_deed ?fn_Bit_deed ?ti_EndedBit_deed ?fn_EndedBit_deed ?ti_Bit___init__ ?fn_Bit___init__ ?su_1_TakenBit ?sb_1_TakenBit ?su_8_RaisedBit ?sb_8_RaisedBit ?su_9_EndedBit ?sb_9_EndedBit ?su_10_RaisedBit ?sb_10_RaisedBit ?su_10_EndedBit ?sb_10_EndedBit ?su_11_RaisedBit ?sb_11_RaisedBit ?su_12_TakenBit ?sb_12_TakenBit ?su_12_RaisedBit ?sb_12_RaisedBit ?su_13_EndedBit ?sb_13_EndedBit ?su_14_RaisedBit ?sb_14_RaisedBit ?su_14_EndedBit ?sb_14_EndedBit ?su_15_TakenBit ?sb_15_TakenBit ?su_16_KindBit ?sb_16_KindBit ?mM ?lM ?litM ?lowM ?iM0 ?iM1 ?iM2 ?iM3 ?tM0 ?tM1 ?tM2 ?tM3 ?tyc ?tyg ?tyt ?tym ?tyi ?lkK ?lkO ?nsK ?nsO ?neq ?nne ?foK ?aB ?aE0 ?aE1 ?aE2 ?aE3 ?aE4 ?aE5 ?xs2 ?xv2 ?lkE2 ?lkF2 ?rvE2 ?saE2 ?tyE2 ?kpE2 ?inE2 ?tiE2 ?lIK2 ?cIK2 ?lcd2 ?vsI2 ?fiI2 ?lcc2 ?sbI2 ?veI2 ?suI2 ?kt2_0 ?kt2_1 ?kt2_2 ?kt2_3 ?kt2_4 ?kt2_5 ?ktv2 ?exm2 ?xg2 ?xk2 ?xd2 ?xa2 ?xm2 ?tabA ?ntbA ?tabC ?ntbC ?npac ?z_int ?z_bool ?z_abs ?z_len ?z_list ?z_tuple ?z_max ?z_range ?z_isinstance ?z_repr ?z_sorted ?z_set ?z_zip ?z_ValueError ?z_super
    (case aC_Bit => k_is)
    (case pg_Bit => k_is)
    (case hd_Bit => k_is)
    (case po_Bit => k_is)
    (case sa_Bit => k_is)
    (case mk_Bit => k_is)
    (case kc_Bit => k_is)
    (case n_Bit_held => k_is)
    (case aC_TakenBit => k_is)
    (case pg_TakenBit => k_is)
    (case hd_TakenBit => k_is)
    (case po_TakenBit => k_is)
    (case sa_TakenBit => k_is)
    (case mk_TakenBit => k_is)
    (case kc_TakenBit => k_is)
    (case n_TakenBit_held => k_is)
    (case aC_ClearedBit => k_is)
    (case pg_ClearedBit => k_is)
    (case hd_ClearedBit => k_is)
    (case po_ClearedBit => k_is)
    (case sa_ClearedBit => k_is)
    (case mk_ClearedBit => k_is)
    (case kc_ClearedBit => k_is)
    (case n_ClearedBit_held => k_is)
    (case aC_ZeroClearedBit => k_is)
    (case pg_ZeroClearedBit => k_is)
    (case hd_ZeroClearedBit => k_is)
    (case po_ZeroClearedBit => k_is)
    (case sa_ZeroClearedBit => k_is)
    (case mk_ZeroClearedBit => k_is)
    (case kc_ZeroClearedBit => k_is)
    (case n_ZeroClearedBit_held => k_is)
    (case aC_SetBit => k_is)
    (case pg_SetBit => k_is)
    (case hd_SetBit => k_is)
    (case po_SetBit => k_is)
    (case sa_SetBit => k_is)
    (case mk_SetBit => k_is)
    (case kc_SetBit => k_is)
    (case n_SetBit_held => k_is)
    (case aC_FlippedBit => k_is)
    (case pg_FlippedBit => k_is)
    (case hd_FlippedBit => k_is)
    (case po_FlippedBit => k_is)
    (case sa_FlippedBit => k_is)
    (case mk_FlippedBit => k_is)
    (case kc_FlippedBit => k_is)
    (case n_FlippedBit_held => k_is)
    (case aC_OnceBit => k_is)
    (case pg_OnceBit => k_is)
    (case hd_OnceBit => k_is)
    (case po_OnceBit => k_is)
    (case sa_OnceBit => k_is)
    (case mk_OnceBit => k_is)
    (case kc_OnceBit => k_is)
    (case n_OnceBit_held => k_is)
    (case aC_DeafBit => k_is)
    (case pg_DeafBit => k_is)
    (case hd_DeafBit => k_is)
    (case po_DeafBit => k_is)
    (case sa_DeafBit => k_is)
    (case mk_DeafBit => k_is)
    (case kc_DeafBit => k_is)
    (case n_DeafBit_held => k_is)
    (case aC_RaisedBit => k_is)
    (case pg_RaisedBit => k_is)
    (case hd_RaisedBit => k_is)
    (case po_RaisedBit => k_is)
    (case sa_RaisedBit => k_is)
    (case mk_RaisedBit => k_is)
    (case kc_RaisedBit => k_is)
    (case n_RaisedBit_held => k_is)
    (case aC_EndedBit => k_is)
    (case pg_EndedBit => k_is)
    (case hd_EndedBit => k_is)
    (case po_EndedBit => k_is)
    (case sa_EndedBit => k_is)
    (case mk_EndedBit => k_is)
    (case kc_EndedBit => k_is)
    (case n_EndedBit_held => k_is)
    (case aC_DriftingBit => k_is)
    (case pg_DriftingBit => k_is)
    (case hd_DriftingBit => k_is)
    (case po_DriftingBit => k_is)
    (case sa_DriftingBit => k_is)
    (case mk_DriftingBit => k_is)
    (case kc_DriftingBit => k_is)
    (case n_DriftingBit_held => k_is)
    (case aC_EventBit => k_is)
    (case pg_EventBit => k_is)
    (case hd_EventBit => k_is)
    (case po_EventBit => k_is)
    (case sa_EventBit => k_is)
    (case mk_EventBit => k_is)
    (case kc_EventBit => k_is)
    (case n_EventBit_held => k_is)
    (case aC_TakenEventBit => k_is)
    (case pg_TakenEventBit => k_is)
    (case hd_TakenEventBit => k_is)
    (case po_TakenEventBit => k_is)
    (case sa_TakenEventBit => k_is)
    (case mk_TakenEventBit => k_is)
    (case kc_TakenEventBit => k_is)
    (case n_TakenEventBit_held => k_is)
    (case aC_StartBit => k_is)
    (case pg_StartBit => k_is)
    (case hd_StartBit => k_is)
    (case po_StartBit => k_is)
    (case sa_StartBit => k_is)
    (case mk_StartBit => k_is)
    (case kc_StartBit => k_is)
    (case n_StartBit_held => k_is)
    (case aC_GaugeBit => k_is)
    (case pg_GaugeBit => k_is)
    (case hd_GaugeBit => k_is)
    (case po_GaugeBit => k_is)
    (case sa_GaugeBit => k_is)
    (case mk_GaugeBit => k_is)
    (case kc_GaugeBit => k_is)
    (case n_GaugeBit_held => k_is)
    (case aC_SealedBit => k_is)
    (case pg_SealedBit => k_is)
    (case hd_SealedBit => k_is)
    (case po_SealedBit => k_is)
    (case sa_SealedBit => k_is)
    (case mk_SealedBit => k_is)
    (case kc_SealedBit => k_is)
    (case n_SealedBit_held => k_is)
    (case aC_KindBit => k_is)
    (case pg_KindBit => k_is)
    (case hd_KindBit => k_is)
    (case po_KindBit => k_is)
    (case sa_KindBit => k_is)
    (case mk_KindBit => k_is)
    (case kc_KindBit => k_is)
    (case n_KindBit_held => k_is)
    (case n_KindBit_kind => k_is)
    (case aC_Kind => k_is)
    (case pg_Kind => k_is)
    (case hd_Kind => k_is)
    (case po_Kind => k_is)
    (case sa_Kind => k_is)
    (case mk_Kind => k_is)
    (case kc_Kind => k_is)
    (case n_Kind_reading => k_is)
    (case n_Kind_writing => k_is)
    (case n_Kind_device => k_is)
    (case n_Kind_states => k_is)
    (case rd_Kind => k_is)
    (case ga_Kind => k_is)
    (case fc_t_Kind_READINGS => k_is)
    (case lk_t_Kind_READINGS => k_is)
    (case fc_t_Kind_WRITINGS => k_is)
    (case lk_t_Kind_WRITINGS => k_is)
    (case fc_t_Kind_DEVICES => k_is)
    (case lk_t_Kind_DEVICES => k_is)
    (case a_is_integer => k_is)
    (case l_is_integer => k_is)
    (case c_is_integer => k_is)
    (case k_is_integer => k_is)
    (case a_need_bit => k_is)
    (case l_need_bit => k_is)
    (case c_need_bit => k_is)
    (case k_need_bit => k_is)
    (case a_Bit___init__ => k_is)
    (case i_Bit___init__ => k_is)
    (case l_Bit___init__ => k_is)
    (case dt_Bit___init__ => k_is)
    (case c_Bit___init__ => k_is)
    (case k_Bit___init__ => k_is)
    (case pa_Bit_now => k_is)
    (case pb_Bit_now => k_is)
    (case pc_Bit_now => k_is)
    (case pd_Bit_now => k_is)
    (case l_Bit_now => k_is)
    (case c_Bit_now => k_is)
    (case k_Bit_now => k_is)
    (case pa_Bit_state => k_is)
    (case pb_Bit_state => k_is)
    (case pc_Bit_state => k_is)
    (case pd_Bit_state => k_is)
    (case l_Bit_state => k_is)
    (case c_Bit_state => k_is)
    (case k_Bit_state => k_is)
    (case a_Bit_read => k_is)
    (case i_Bit_read => k_is)
    (case l_Bit_read => k_is)
    (case c_Bit_read => k_is)
    (case k_Bit_read => k_is)
    (case a_Bit_write => k_is)
    (case i_Bit_write => k_is)
    (case l_Bit_write => k_is)
    (case c_Bit_write => k_is)
    (case k_Bit_write => k_is)
    (case a_Bit_deed => k_is)
    (case i_Bit_deed => k_is)
    (case l_Bit_deed => k_is)
    (case c_Bit_deed => k_is)
    (case k_Bit_deed => k_is)
    (case a_ClearedBit_write => k_is)
    (case i_ClearedBit_write => k_is)
    (case l_ClearedBit_write => k_is)
    (case c_ClearedBit_write => k_is)
    (case k_ClearedBit_write => k_is)
    (case a_ZeroClearedBit_write => k_is)
    (case i_ZeroClearedBit_write => k_is)
    (case l_ZeroClearedBit_write => k_is)
    (case c_ZeroClearedBit_write => k_is)
    (case k_ZeroClearedBit_write => k_is)
    (case a_SetBit_write => k_is)
    (case i_SetBit_write => k_is)
    (case l_SetBit_write => k_is)
    (case c_SetBit_write => k_is)
    (case k_SetBit_write => k_is)
    (case a_FlippedBit_write => k_is)
    (case i_FlippedBit_write => k_is)
    (case l_FlippedBit_write => k_is)
    (case c_FlippedBit_write => k_is)
    (case k_FlippedBit_write => k_is)
    (case a_OnceBit_write => k_is)
    (case i_OnceBit_write => k_is)
    (case l_OnceBit_write => k_is)
    (case c_OnceBit_write => k_is)
    (case k_OnceBit_write => k_is)
    (case a_DeafBit_write => k_is)
    (case i_DeafBit_write => k_is)
    (case l_DeafBit_write => k_is)
    (case c_DeafBit_write => k_is)
    (case k_DeafBit_write => k_is)
    (case a_KindBit_read => k_is)
    (case i_KindBit_read => k_is)
    (case l_KindBit_read => k_is)
    (case c_KindBit_read => k_is)
    (case k_KindBit_read => k_is)
    (case a_KindBit_write => k_is)
    (case i_KindBit_write => k_is)
    (case l_KindBit_write => k_is)
    (case c_KindBit_write => k_is)
    (case k_KindBit_write => k_is)
    (case a_KindBit_deed => k_is)
    (case i_KindBit_deed => k_is)
    (case l_KindBit_deed => k_is)
    (case c_KindBit_deed => k_is)
    (case k_KindBit_deed => k_is)
    (case a_Kind___init__ => k_is)
    (case i_Kind___init__ => k_is)
    (case l_Kind___init__ => k_is)
    (case c_Kind___init__ => k_is)
    (case k_Kind___init__ => k_is)
    (case a_Kind_after_read => k_is)
    (case i_Kind_after_read => k_is)
    (case l_Kind_after_read => k_is)
    (case c_Kind_after_read => k_is)
    (case k_Kind_after_read => k_is)
    (case a_Kind_after_write => k_is)
    (case i_Kind_after_write => k_is)
    (case l_Kind_after_write => k_is)
    (case c_Kind_after_write => k_is)
    (case k_Kind_after_write => k_is)
    (case a_Kind_unguarded => k_is)
    (case i_Kind_unguarded => k_is)
    (case l_Kind_unguarded => k_is)
    (case c_Kind_unguarded => k_is)
    (case k_Kind_unguarded => k_is)
    (case a_Kind_deeds => k_is)
    (case i_Kind_deeds => k_is)
    (case l_Kind_deeds => k_is)
    (case c_Kind_deeds => k_is)
    (case k_Kind_deeds => k_is)
    (case a_Kind___eq__ => k_is)
    (case i_Kind___eq__ => k_is)
    (case l_Kind___eq__ => k_is)
    (case c_Kind___eq__ => k_is)
    (case k_Kind___eq__ => k_is)
    (case a__law_pen => k_is)
    (case l__law_pen => k_is)
    (case c__law_pen => k_is)
    (case k__law_pen => k_is)
    (case a__law_draw => k_is)
    (case l__law_draw => k_is)
    (case c__law_draw => k_is)
    (case k__law_draw => k_is)
    (case a__law_heard => k_is)
    (case l__law_heard => k_is)
    (case c__law_heard => k_is)
    (case k__law_heard => k_is)
    (case a__law_plain_bit => k_is)
    (case l__law_plain_bit => k_is)
    (case c__law_plain_bit => k_is)
    (case k__law_plain_bit => k_is)
    (case a__law_bit => k_is)
    (case l__law_bit => k_is)
    (case c__law_bit => k_is)
    (case k__law_bit => k_is)
    (case a__law_words_of => k_is)
    (case l__law_words_of => k_is)
    (case c__law_words_of => k_is)
    (case k__law_words_of => k_is)
    (case a__law_odd => k_is)
    (case l__law_odd => k_is)
    (case c__law_odd => k_is)
    (case k__law_odd => k_is)
    (case a__law_act => k_is)
    (case l__law_act => k_is)
    (case c__law_act => k_is)
    (case k__law_act => k_is)
    (case a__law_class_right => k_is)
    (case l__law_class_right => k_is)
    (case c__law_class_right => k_is)
    (case k__law_class_right => k_is)
    (case a_law => k_is)
    (case l_law => k_is)
    (case c_law => k_is)
    (case k_law => k_is)
    (case in_0 => k_is)
    (case nw_0 => k_is)
    (case st_0 => k_is)
    (case rd_0 => k_is)
    (case wr_0 => k_is)
    (case de_0 => k_is)
    (case in_1 => k_is)
    (case nw_1 => k_is)
    (case st_1 => k_is)
    (case rd_1 => k_is)
    (case wr_1 => k_is)
    (case de_1 => k_is)
    (case in_2 => k_is)
    (case nw_2 => k_is)
    (case st_2 => k_is)
    (case rd_2 => k_is)
    (case wr_2 => k_is)
    (case de_2 => k_is)
    (case in_3 => k_is)
    (case nw_3 => k_is)
    (case st_3 => k_is)
    (case rd_3 => k_is)
    (case wr_3 => k_is)
    (case de_3 => k_is)
    (case in_4 => k_is)
    (case nw_4 => k_is)
    (case st_4 => k_is)
    (case rd_4 => k_is)
    (case wr_4 => k_is)
    (case de_4 => k_is)
    (case in_5 => k_is)
    (case nw_5 => k_is)
    (case st_5 => k_is)
    (case rd_5 => k_is)
    (case wr_5 => k_is)
    (case de_5 => k_is)
    (case in_6 => k_is)
    (case nw_6 => k_is)
    (case st_6 => k_is)
    (case rd_6 => k_is)
    (case wr_6 => k_is)
    (case de_6 => k_is)
    (case in_7 => k_is)
    (case nw_7 => k_is)
    (case st_7 => k_is)
    (case rd_7 => k_is)
    (case wr_7 => k_is)
    (case de_7 => k_is)
    (case in_8 => k_is)
    (case nw_8 => k_is)
    (case st_8 => k_is)
    (case rd_8 => k_is)
    (case wr_8 => k_is)
    (case de_8 => k_is)
    (case in_9 => k_is)
    (case nw_9 => k_is)
    (case st_9 => k_is)
    (case rd_9 => k_is)
    (case wr_9 => k_is)
    (case de_9 => k_is)
    (case in_10 => k_is)
    (case nw_10 => k_is)
    (case st_10 => k_is)
    (case rd_10 => k_is)
    (case wr_10 => k_is)
    (case de_10 => k_is)
    (case in_11 => k_is)
    (case nw_11 => k_is)
    (case st_11 => k_is)
    (case rd_11 => k_is)
    (case wr_11 => k_is)
    (case de_11 => k_is)
    (case in_12 => k_is)
    (case nw_12 => k_is)
    (case st_12 => k_is)
    (case rd_12 => k_is)
    (case wr_12 => k_is)
    (case de_12 => k_is)
    (case in_13 => k_is)
    (case nw_13 => k_is)
    (case st_13 => k_is)
    (case rd_13 => k_is)
    (case wr_13 => k_is)
    (case de_13 => k_is)
    (case in_14 => k_is)
    (case nw_14 => k_is)
    (case st_14 => k_is)
    (case rd_14 => k_is)
    (case wr_14 => k_is)
    (case de_14 => k_is)
    (case in_15 => k_is)
    (case nw_15 => k_is)
    (case st_15 => k_is)
    (case rd_15 => k_is)
    (case wr_15 => k_is)
    (case de_15 => k_is)
    (case in_16 => k_is)
    (case nw_16 => k_is)
    (case st_16 => k_is)
    (case l_TakenBit_read => k_is)
    (case c_TakenBit_read => k_is)
    (case ld_TakenBit_read => k_is)
    (case vs2_TakenBit_read => exact rfl)
    (case fi2_TakenBit_read => exact rfl)
    (case lc_TakenBit_read => k_is)
    (case dcl_TakenBit_read => (exact ⟨_, rfl⟩))
    (case i_TakenBit_read => k_is)
    (case k_TakenBit_read => k_is)
    (case l_RaisedBit_deed => k_is)
    (case c_RaisedBit_deed => k_is)
    (case ld_RaisedBit_deed => k_is)
    (case vs2_RaisedBit_deed => exact rfl)
    (case fi2_RaisedBit_deed => exact rfl)
    (case lc_RaisedBit_deed => k_is)
    (case dcl_RaisedBit_deed => (exact ⟨_, rfl⟩))
    (case i_RaisedBit_deed => k_is)
    (case k_RaisedBit_deed => k_is)
    (case l_EndedBit_deed => k_is)
    (case c_EndedBit_deed => k_is)
    (case ld_EndedBit_deed => k_is)
    (case vs2_EndedBit_deed => exact rfl)
    (case fi2_EndedBit_deed => exact rfl)
    (case lc_EndedBit_deed => k_is)
    (case dcl_EndedBit_deed => (exact ⟨_, rfl⟩))
    (case i_EndedBit_deed => k_is)
    (case k_EndedBit_deed => k_is)
    (case l_KindBit___init__ => k_is)
    (case c_KindBit___init__ => k_is)
    (case ld_KindBit___init__ => k_is)
    (case vs2_KindBit___init__ => exact rfl)
    (case fi2_KindBit___init__ => exact rfl)
    (case lc_KindBit___init__ => k_is)
    (case dcl_KindBit___init__ => (exact ⟨_, rfl⟩))
    (case i_KindBit___init__ => k_is)
    (case k_KindBit___init__ => k_is)
    (case dt_KindBit___init__ => k_is)
    (case tpI => exact rfl)
    (case opI => k_is)
    (case ti_Bit_read => exact rfl)
    (case fn_Bit_read => k_is)
    (case ti_Bit_deed => exact rfl)
    (case fn_Bit_deed => k_is)
    (case ti_EndedBit_deed => exact rfl)
    (case fn_EndedBit_deed => k_is)
    (case ti_Bit___init__ => exact rfl)
    (case fn_Bit___init__ => k_is)
    (case su_1_TakenBit => exact rfl)
    (case sb_1_TakenBit => k_is)
    (case su_8_RaisedBit => exact rfl)
    (case sb_8_RaisedBit => k_is)
    (case su_9_EndedBit => exact rfl)
    (case sb_9_EndedBit => k_is)
    (case su_10_RaisedBit => exact rfl)
    (case sb_10_RaisedBit => k_is)
    (case su_10_EndedBit => exact rfl)
    (case sb_10_EndedBit => k_is)
    (case su_11_RaisedBit => exact rfl)
    (case sb_11_RaisedBit => k_is)
    (case su_12_TakenBit => exact rfl)
    (case sb_12_TakenBit => k_is)
    (case su_12_RaisedBit => exact rfl)
    (case sb_12_RaisedBit => k_is)
    (case su_13_EndedBit => exact rfl)
    (case sb_13_EndedBit => k_is)
    (case su_14_RaisedBit => exact rfl)
    (case sb_14_RaisedBit => k_is)
    (case su_14_EndedBit => exact rfl)
    (case sb_14_EndedBit => k_is)
    (case su_15_TakenBit => exact rfl)
    (case sb_15_TakenBit => k_is)
    (case su_16_KindBit => exact rfl)
    (case sb_16_KindBit => k_is)
    (case mM => k_is)
    (case lM => k_is)
    (case litM => exact ⟨⟨_, _, rfl, rfl⟩, ⟨_, _, rfl, rfl⟩, ⟨_, _, rfl, rfl⟩, ⟨_, _, rfl, rfl⟩, trivial⟩)
    (case lowM => exact rfl)
    (case iM0 => k_is)
    (case iM1 => k_is)
    (case iM2 => k_is)
    (case iM3 => k_is)
    (case tM0 => k_is)
    (case tM1 => k_is)
    (case tM2 => k_is)
    (case tM3 => k_is)
    (case tyc => k_is)
    (case tyg => k_is)
    (case tyt => k_is)
    (case tym => k_is)
    (case tyi => exact rfl)
    (case lkK => k_is)
    (case lkO => exact rfl)
    (case nsK => k_is)
    (case nsO => (clear KX G hmg; intro K2 e; unfold PySem.W.nsOkIn; rw [e]; first | rfl | decide | simp))
    (case neq => k_is)
    (case nne => k_is)
    (case foK => exact rfl)
    (case aB => k_is)
    (case aE0 => k_is)
    (case aE1 => k_is)
    (case aE2 => k_is)
    (case aE3 => k_is)
    (case aE4 => k_is)
    (case aE5 => k_is)
    (case xs2 => exact rfl)
    (case xv2 => k_is)
    (case lkE2 => k_is)
    (case lkF2 => exact rfl)
    (case rvE2 => exact rfl)
    (case saE2 => k_is)
    (case tyE2 => exact rfl)
    (case kpE2 => k_is)
    (case inE2 => k_is)
    (case tiE2 => exact rfl)
    (case lIK2 => k_is)
    (case cIK2 => k_is)
    (case lcd2 => k_is)
    (case vsI2 => exact rfl)
    (case fiI2 => exact rfl)
    (case lcc2 => k_is)
    (case sbI2 => k_is)
    (case veI2 => k_is)
    (case suI2 => exact rfl)
    (case kt2_0 => exact rfl)
    (case kt2_1 => exact rfl)
    (case kt2_2 => exact rfl)
    (case kt2_3 => exact rfl)
    (case kt2_4 => exact rfl)
    (case kt2_5 => exact rfl)
    (case ktv2 => exact rfl)
    (case exm2 => exact rfl)
    (case xg2 => k_is)
    (case xk2 => k_is)
    (case xd2 => k_is)
    (case xa2 => k_is)
    (case xm2 => k_is)
    (case tabA => exact rfl)
    (case ntbA => exact rfl)
    (case tabC => exact rfl)
    (case ntbC => exact rfl)
    (case npac => decide)
    (case z_int => k_is)
    (case z_bool => k_is)
    (case z_abs => k_is)
    (case z_len => k_is)
    (case z_list => k_is)
    (case z_tuple => k_is)
    (case z_max => k_is)
    (case z_range => k_is)
    (case z_isinstance => k_is)
    (case z_repr => k_is)
    (case z_sorted => k_is)
    (case z_set => k_is)
    (case z_zip => k_is)
    (case z_ValueError => k_is)
    (case z_super => k_is)

