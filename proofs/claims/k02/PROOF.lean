import PyProof.Rows.All
import Wide.All
import OpenK.AllK
import Wide.FinOn
import HandS.ForMost
import HandS.Evl
import HandS.IsInst
import HandS.ClsMeth
import HandS.Flow
import HandS.TupAny
import HandS.Walk
import HandS.Defaults
import HandS.Deep
import PyProof.ReprReads
import HandS.SlotsOwn
import HandS.MakeKw
import HandS.MakeKwOnly
import HandS.FStr
import HandS.More
import KE.KCallOwn
import PyProof.InstNe
import HandS.ExcInit
import HandS.ExcSuper
import HandS.ExcField
import HandS.ExcIs
import KE.KExcIs
import KE.KIsAll
import KE.KSuper
import KE.KExcSuper
import PyProof.EqKinds
import HandS.Dict
import HandS.SetFor
import HandS.Lambda
import HandS.EndBits
import HandS.EndTab
import HandS.WordsExc
import KE.KNestM
import OpenK.KOps
import KE.KOpsOwn
import HandS.Conv
import KE.BitLaws
import PyProof.Ascii
import PyProof.Rows.ReprOcc
import PyProof.FitsInt
import PyProof.ReprNest
import PyProof.ReprRoads
import HandS.Strs
import HandS.SortInts
import HandS.DictComp
import HandS.GenList
import HandS.Zip
import PyProof.Draws
import PyProof.EnumMake
import KE.GoesMore
import PyProof.ReprLen
import HandS.Property
import HandS.SortRule
import HandS.Style
import PySem.Challenge.RW_keptbits_k02_blends_by_operations
set_option Elab.async false
set_option linter.all false
set_option maxRecDepth 100000
set_option maxHeartbeats 4000000
/-! KB: own helpers over the hand layer: callees bundled, match, readings as steps. -/
namespace KB
open PySem PySem.Spec PyProof.Rows L2

section
variable {X : Cx}
/-! ### callees -/
structure Callee (P : Program) (w : World) (K : PySem.W.Frag) (mg : Str → Option Value) (base : Heap) (CX : CXT) (k : Nat) (x : Str) (ps : List Str) (sp : Sp) : Prop where
  ex : ∃ (f : Addr) (fd : FuncData), FnOk P w K mg base CX k f fd ps sp ∧ mg x = some (.ref f) ∧ PySem.W.keepIn K (.ref f) = true ∧ Binds K fd ps []
structure CalleeM (P : Program) (w : World) (K : PySem.W.Frag) (mg : Str → Option Value) (base : Heap) (CX : CXT) (k : Nat) (C : Addr) (m : Str) (ps : List Str) (sp : Sp) : Prop where
  ex : ∃ (f : Addr) (fd : FuncData), FnOk P w K mg base CX k f fd ps sp ∧ Meth K C m f ∧ Binds K fd ps []
  cl : Cls K C
structure CalleeI (P : Program) (w : World) (K : PySem.W.Frag) (mg : Str → Option Value) (base : Heap) (CX : CXT) (k : Nat) (C : Addr) (x : Str) (ps : List Str) (sp : Sp) : Prop where
  ex : ∃ (f : Addr) (fd : FuncData), FnOk P w K mg base CX k f fd ps sp ∧ Mk K C f ∧ mg x = some (.ref C) ∧ Binds K fd ps []
theorem pe_callC {CX : CXT} {k : Nat} {x : Str} {ps : List Str} {sp : Sp} {E : XK} {e : Expr} {es : List Expr} {p pos : Pos} {t : TA} (c : Callee X.prog X.w X.K X.mg X.base CX k x ps sp) (hr : Room k X.A) (hg : Gl X x) (hx : Passes CX X E) (ha : PA X (e :: es) t)
    (hdb : (x == ("__debug__" : Str)) = false := by decide) (he : starEach (e :: es) X.env = (false, eval e X.env) :: starEach es X.env := by rfl) (hpl : (backTo pos (starEach es X.env)).any (·.1) = false := by rfl) :
    PE X (.Call (.Name x p) (e :: es) [] pos) (tCall sp [] E t) := by
  obtain ⟨f, fd, F, hm, hk, hb⟩ := c.ex
  exact pe_call F hr hg hm hk hb .nil hx ha hdb he hpl
theorem pe_callC0 {CX : CXT} {k : Nat} {x : Str} {ps : List Str} {sp : Sp} {E : XK} {p pos : Pos} (c : Callee X.prog X.w X.K X.mg X.base CX k x ps sp) (hr : Room k X.A) (hg : Gl X x) (hx : Passes CX X E)
    (hdb : (x == ("__debug__" : Str)) = false := by decide) :
    PE X (.Call (.Name x p) [] [] pos) (tCall sp [] E tNil) := by
  obtain ⟨f, fd, F, hm, hk, hb⟩ := c.ex
  exact pe_call0 F hr hg hm hk hb .nil hx hdb
theorem pe_methC {pl : Sem Bool} {CX : CXT} {k : Nat} {C : Addr} {m : Str} {ps : List Str} {sp : Sp} {E : XK} {o e : Expr} {es : List Expr} {apos pos : Pos} {ta : TE} {t : TA} (c : CalleeM X.prog X.w X.K X.mg X.base CX k C m ps sp) (ho : PE X o ta) (hr : Room k X.A) (hx : Passes CX X E) (ha : PA X (e :: es) t)
    (hst : starEach (e :: es) X.env = (false, eval e X.env) :: starEach es X.env := by rfl) (hpl : (backTo pos (starEach es X.env)).any (·.1) = false := by rfl)
    (ht : eval (.Call (.Attribute o m apos) (e :: es) [] pos) X.env = (do
      let ov ← eval o X.env
      standAt apos.atName
      let (f, first) ← holding [ov] (getMethod ov m pl)
      callWith pos f first (backTo pos (starEach (e :: es) X.env)) (backToKw pos (keywordEach [] X.env))) := by rfl) :
    PE X (.Call (.Attribute o m apos) (e :: es) [] pos) (tMeth C m sp [] E ta t) := by
  obtain ⟨f, fd, F, hm, hb⟩ := c.ex
  exact pe_meth ho c.cl hm F hr hb .nil hx ha hst hpl ht
theorem pe_methC0 {pl : Sem Bool} {CX : CXT} {k : Nat} {C : Addr} {m : Str} {ps : List Str} {sp : Sp} {E : XK} {o : Expr} {apos pos : Pos} {ta : TE} (c : CalleeM X.prog X.w X.K X.mg X.base CX k C m ps sp) (ho : PE X o ta) (hr : Room k X.A) (hx : Passes CX X E)
    (ht : eval (.Call (.Attribute o m apos) [] [] pos) X.env = (do
      let ov ← eval o X.env
      standAt apos.atName
      let (f, first) ← holding [ov] (getMethod ov m pl)
      callWith pos f first [] (backToKw pos (keywordEach [] X.env))) := by rfl) :
    PE X (.Call (.Attribute o m apos) [] [] pos) (tMeth C m sp [] E ta tNil) := by
  obtain ⟨f, fd, F, hm, hb⟩ := c.ex
  exact pe_meth0 ho c.cl hm F hr hb .nil hx ht
theorem pe_makeC {CX : CXT} {k : Nat} {C : Addr} {x : Str} {ps : List Str} {sp : Sp} {E : XK} {e : Expr} {es : List Expr} {p pos : Pos} {t : TA} (c : CalleeI X.prog X.w X.K X.mg X.base CX k C x ps sp) (hr : Room (k + 1) X.A) (hg : Gl X x) (hx : Passes CX X E) (ha : PA X (e :: es) t)
    (hdb : (x == ("__debug__" : Str)) = false := by decide) (he : starEach (e :: es) X.env = (false, eval e X.env) :: starEach es X.env := by rfl) (hpl : (backTo pos (starEach es X.env)).any (·.1) = false := by rfl) :
    PE X (.Call (.Name x p) (e :: es) [] pos) (tMake C sp [] E t) := by
  obtain ⟨f, fd, F, M, hm, hb⟩ := c.ex
  exact pe_make M F hr hg hm hb .nil hx ha hdb he hpl

/-- a def with defaults, called without them; called by keywords -/
structure CalleeD (P : Program) (w : World) (K : PySem.W.Frag) (mg : Str → Option Value) (base : Heap) (CX : CXT) (k : Nat) (x : Str) (ps : List Str) (sp : Sp) (dvs : List V) : Prop where
  ex : ∃ (f : Addr) (fd : FuncData) (ds : List Value), FnOk P w K mg base CX k f fd ps sp ∧ mg x = some (.ref f) ∧ PySem.W.keepIn K (.ref f) = true ∧ Binds K fd ps ds ∧ Vals dvs ds
structure CalleeKw (P : Program) (w : World) (K : PySem.W.Frag) (mg : Str → Option Value) (base : Heap) (CX : CXT) (k : Nat) (x : Str) (ps : List Str) (sp : Sp) (n : Nat) (ks : List Str) (gV : List V → List V → List V) : Prop where
  ex : ∃ (f : Addr) (fd : FuncData) (g : List Value → List Value → List Value), FnOk P w K mg base CX k f fd ps sp ∧ mg x = some (.ref f) ∧ PySem.W.keepIn K (.ref f) = true ∧ KBn K fd ps n ks g gV
theorem pe_callD {CX : CXT} {k : Nat} {x : Str} {ps : List Str} {sp : Sp} {dvs : List V} {E : XK} {e : Expr} {es : List Expr} {p pos : Pos} {t : TA} (c : CalleeD X.prog X.w X.K X.mg X.base CX k x ps sp dvs) (hr : Room k X.A) (hg : Gl X x) (hx : Passes CX X E) (ha : PA X (e :: es) t)
    (hdb : (x == ("__debug__" : Str)) = false := by decide) (he : starEach (e :: es) X.env = (false, eval e X.env) :: starEach es X.env := by rfl) (hpl : (backTo pos (starEach es X.env)).any (·.1) = false := by rfl) :
    PE X (.Call (.Name x p) (e :: es) [] pos) (tCall sp dvs E t) := by
  obtain ⟨f, fd, ds, F, hm, hk, hb, hd⟩ := c.ex
  exact pe_call F hr hg hm hk hb hd hx ha hdb he hpl
theorem pe_callKw {CX : CXT} {k n : Nat} {x : Str} {ps ks : List Str} {sp : Sp} {gV : List V → List V → List V} {E : XK} {e : Expr} {es : List Expr} {kws : List Keyword} {p pos : Pos} {t tk : TA} (c : CalleeKw X.prog X.w X.K X.mg X.base CX k x ps sp n ks gV) (hr : Room k X.A) (hg : Gl X x) (hx : Passes CX X E)
    (ha : PA X (e :: es) t) (hkw : PK X kws tk) (hall : (backToKw pos (keywordEach kws X.env)).all (·.1.isSome) = true := by rfl) (hks : (backToKw pos (keywordEach kws X.env)).filterMap (·.1) = ks := by rfl)
    (hdb : (x == ("__debug__" : Str)) = false := by decide) (he : starEach (e :: es) X.env = (false, eval e X.env) :: starEach es X.env := by rfl)
    (hpl : ((backTo pos (starEach (e :: es) X.env)).any (·.1) || (backToKw pos (keywordEach kws X.env)).any (·.1.isNone)) = false := by rfl) :
    PE X (.Call (.Name x p) (e :: es) kws pos) (tCallN n ks.length sp gV E t tk) := by
  obtain ⟨f, fd, g, F, hm, hk, hb⟩ := c.ex
  exact pe_callN F hr hg hm hk hb hx ha hkw hall hks hdb he hpl
theorem hu65 {A : Around} {k : Nat} (hr : Room k A) : A.units + 65 < cLine := by have := hr.un; omega
/-! ### match over written texts -/
structure PM (X : Cx) (cs : List MatchCase) (tm : V → TS) : Prop where
  run : ∀ (pins : List (Addr × Obj)) (s : Shared) (σ : L2.St) (H : Hp) (D : Ends) (v : V) (u : Value) (first : Bool), Inv X pins σ H s → RelV v u → tm v D σ H → wpAny (model X.prog X.w) X.A (matchCases cs X.env u first) (SP X pins D) X.xe s
def tmNil : V → TS := fun _ D σ H => D.nx σ H
def tmStr (x : Str) (t : TS) (tr : V → TS) : V → TS := fun v D σ H => ∃ y, v = .str y ∧ if decide (y = x) = true then t D σ H else tr v D σ H
def tMatch (te : TE) (tm : V → TS) : TS := fun D σ H => te σ H fun x H1 => tm x D σ H1
theorem pm_nil : PM X [] tmNil := ⟨fun _ _ σ H _ _ _ _ I _ h => wpAny_matchCases_nil ⟨σ, H, I, h⟩⟩
theorem pm_str {x : Str} {j : _} {pos pos' : Pos} {body : List Stmt} {rest : List MatchCase} {t : TS} {tr : V → TS} (hb : PSs X body t) (hr : PM X rest tr) : PM X (⟨.MatchValue (.Constant (.str x) j pos) pos', none, body⟩ :: rest) (tmStr x t tr) := by
  refine ⟨fun pins s σ H D v u first I r h => ?_⟩
  obtain ⟨y, rfl, h⟩ := h
  refine wpAny_matchCases_cons (wpAny_matchPattern_Value ?_)
  refine thn (pe_str.run pins s σ H (fun v' H' => v' = .str x ∧ H' = H) I ⟨rfl, rfl⟩) fun u1 s1 ⟨v1, H1, I1, r1, e1, e2⟩ => ?_
  subst e1 e2
  refine thn (op_eq pins s1 σ H1 (.str y) (.str x) u u1 (fun v' H' => v' = .bl (decide (y = x)) ∧ H' = H1) I1 r r1 ⟨rfl, ?_, rfl⟩) fun u2 s2 ⟨v2, H2, I2, r2, e3, e4⟩ => ?_
  · congr 1
    by_cases e : y = x
    · subst e; simp
    · simp [e]
  subst e3 e4
  obtain rfl : u2 = Value.bool (decide (y = x)) := r2
  refine wpAny_truthy_bool ?_
  by_cases e : y = x
  · rw [if_pos (decide_eq_true e)]
    rw [if_pos (decide_eq_true e)] at h
    refine wpAny_assignInOrder_none ?_
    exact hb.run pins s2 σ H2 D I2 h
  · rw [if_neg (by simp [e])]
    rw [if_neg (by simp [e])] at h
    exact hr.run pins s2 σ H2 D _ u false I2 r h
theorem ps_match {e : Expr} {cs : List MatchCase} {pos : Pos} {te : TE} {tm : V → TS} (he : PE X e te) (hm : PM X cs tm) : PS X (.Match e cs pos) (tMatch te tm) := by
  refine ⟨fun pins s σ H D I h => ?_⟩
  refine wpAny_Match (thn (he.run pins s σ H _ I h) fun u s1 ⟨x, H1, I1, r1, q1⟩ => ?_)
  exact hm.run pins s1 σ H1 D x u true I1 r1 q1
end

/-! ### readings as steps -/
def ForW (J : It) (g : TG) (tb : TS) (D : Ends) (σ : L2.St) (H : Hp) : Prop := ∃ W : Nat → Nat → L2.St → Hp → Prop, (∃ m, W 0 m σ H) ∧ ∀ i m σ H, W i m σ H →
      (J.stop i H ∧ D.nx σ H) ∨ (J.go i H ∧ ∃ N : L2.St → Hp → Prop, (∀ σ' H', N σ' H' → ∃ m', m' < m ∧ W (i + 1) m' σ' H') ∧ ∀ x H', J.yld i H x H' → g x σ H' fun σ2 H2 => tb { D with nx := N, ct := N, bk := D.nx } σ2 H2)
def LcW (J : It) (g : TG) (tt : TT) (te : TE) (vs : List Nat) (σ : L2.St) (H1 : Hp) (Q : VK) : Prop := ∀ D, H1 D = none → ∃ W : Nat → Nat → Hp → Prop, (∃ m, W 0 m (upd H1 D (.lst []))) ∧ ∀ i m H, W i m H →
  (J.stop i H ∧ Q (.ref D) H) ∨ (J.go i H ∧ ∃ Nx : Hp → Prop, (∀ H', Nx H' → ∃ m', m' < m ∧ W (i + 1) m' H') ∧ ∀ x H', J.yld i H x H' → g x (wipe σ vs) H' fun σ2 H2 => wipe σ2 vs = wipe σ vs ∧ tt σ2 H2 fun b H3 =>
    if b = true then te σ2 H3 fun y H4 => ∃ acc, H4 D = some (.lst acc) ∧ acc.length < sizeLine ∧ Nx (upd H4 D (.lst (acc ++ [y]))) else Nx H3)
theorem forW {J : It} {n : Nat} {G : Hp → Prop} {Y : Nat → Hp → V → Hp → Prop} (wk : Walk J n G Y) {g : TG} {tb : TS} {D : Ends} {σ : L2.St} {H : Hp} (Pv : Nat → L2.St → Hp → Prop) (h0 : Pv 0 σ H) (hG : ∀ i σ H, i ≤ n → Pv i σ H → G H)
    (hs : ∀ i x σ H H', i < n → Pv i σ H → Y i H x H' → g x σ H' fun σ2 H2 => tb { D with nx := Pv (i + 1), ct := Pv (i + 1), bk := D.nx } σ2 H2) (hd : ∀ σ H, Pv n σ H → D.nx σ H) : ForW J g tb D σ H := for_it wk Pv h0 hG hs hd
section
variable {K : PySem.W.Frag} {σ : L2.St} {H : Hp} {D : Ends} {ta tb tc te : TE} {tA tr : TA} {t u : TT} {t1 t2 tu : TS} {x y v : V} {Q : VK} {QT : Bool → Hp → Prop} {QA : List V → Hp → Prop} {R : It → Hp → Prop} {i : Nat} {a p : Addr} {xs ys : List V}
theorem r_var (h : σ[i]? = some (some v)) (q : Q v H) : tVar i σ H Q := ⟨v, h, q⟩
theorem r_c (q : Q v H) : tC v σ H Q := q
theorem r_op {r : R2} (q : ta σ H fun x H1 => tb σ H1 fun y H2 => r x y H2 Q) : tOp r ta tb σ H Q := q
theorem r_un {r : V → Hp → VK → Prop} (q : ta σ H fun x H1 => r x H1 Q) : tUn r ta σ H Q := q
theorem r_I0 {g : Int → Int → V} {m n : Int} (q : Q (g m n) H) : rI0 g (.int m) (.int n) H Q := ⟨m, n, rfl, rfl, q⟩
theorem r_I {C : Int → Int → Prop} {g : Int → Int → V} {m n : Int} (hc : C m n) (q : Q (g m n) H) : rI C g (.int m) (.int n) H Q := ⟨m, n, rfl, rfl, hc, q⟩
theorem r_U {g : Int → V} {m : Int} (q : Q (g m) H) : rU g (.int m) H Q := ⟨m, rfl, q⟩
theorem r_eq (h : scal x y = true) (q : Q (.bl (decide (x = y))) H) : rEq x y H Q := ⟨h, q⟩
theorem r_ne (h : scal x y = true) (q : Q (.bl (!decide (x = y))) H) : rNe x y H Q := ⟨h, q⟩
theorem r_test (q : te σ H fun x H' => ∃ k, x = .bl k ∧ QT k H') : tTest te σ H QT := q
theorem r_B (q : te σ H fun x H' => ∃ k, x = .bl k ∧ QT k H') : tB te σ H QT := q
theorem r_bl {b : Bool} {q : Bool → Prop} (h : q b) : ∃ k, V.bl b = .bl k ∧ q k := ⟨b, rfl, h⟩
theorem r_and (q : t σ H fun c H1 => if c = true then u σ H1 QT else QT false H1) : tAnd t u σ H QT := q
theorem r_or (q : t σ H fun c H1 => if c = true then QT true H1 else u σ H1 QT) : tOr t u σ H QT := q
theorem r_not (q : t σ H fun c H1 => QT (!c) H1) : tNot t σ H QT := q
theorem r_andV (q : ta σ H fun x H1 => ∃ c, x = .bl c ∧ if c = true then tb σ H1 Q else Q (.bl false) H1) : tAndV ta tb σ H Q := q
theorem r_orV (q : ta σ H fun x H1 => ∃ c, x = .bl c ∧ if c = true then Q (.bl true) H1 else tb σ H1 Q) : tOrV ta tb σ H Q := q
theorem r_notV (q : ta σ H fun x H1 => ∃ c, x = .bl c ∧ Q (.bl (!c)) H1) : tNotV ta σ H Q := q
theorem r_if (q : t σ H fun c H1 => if c = true then ta σ H1 Q else tb σ H1 Q) : tIf t ta tb σ H Q := q
theorem r_nil (q : QA [] H) : tNil σ H QA := q
theorem r_cons (q : ta σ H fun x H1 => tr σ H1 fun xs H2 => QA (x :: xs) H2) : tCons ta tr σ H QA := q
theorem r_tup (q : tA σ H fun xs H1 => xs.length ≤ sizeLine ∧ ∀ p, H1 p = none → Q (.ref p) (upd H1 p (.tup xs))) : tTup tA σ H Q := q
theorem r_lst (q : tA σ H fun xs H1 => xs.length ≤ sizeLine ∧ ∀ p, H1 p = none → Q (.ref p) (upd H1 p (.lst xs))) : tLst tA σ H Q := q
theorem r_call {sp : Sp} {E : XK} (q : tA σ H fun vs H1 => sp (vs ++ []) H1 Q E) : tCall sp [] E tA σ H Q := q
theorem r_cb {r : List V → Hp → VK → Prop} (q : tA σ H fun vs H1 => r vs H1 Q) : tCB r tA σ H Q := q
theorem r_ixL {n : Int} (h : SqL K H p xs) (ha : atI xs n = some v) (q : Q v H) : rIxL K (.ref p) (.int n) H Q := ⟨p, xs, n, v, rfl, rfl, h, ha, q⟩
theorem r_ixT {n : Int} (h : SqT K H p xs) (ha : atI xs n = some v) (q : Q v H) : rIxT K (.ref p) (.int n) H Q := ⟨p, xs, n, v, rfl, rfl, h, ha, q⟩
theorem r_ixS {z : Str} {n : Int} {c : Nat} (hz : z.length ≤ sizeLine) (ha : atI z.cps.toList n = some c) (q : Q (.str ⟨#[c]⟩) H) : rIxS (.str z) (.int n) H Q := ⟨z, n, c, rfl, rfl, hz, ha, q⟩
theorem r_setL {n : Int} {j : Nat} {QH : Hp → Prop} (h : H p = some (.lst xs)) (hj : ixN xs.length n = some j) (q : QH (upd H p (.lst (xs.set j v)))) : rSetL (.ref p) (.int n) v H QH := ⟨p, xs, n, j, rfl, rfl, h, hj, q⟩
theorem r_fld {f : Str} (q : ta σ H fun x H1 => ∃ a C dx fs v, x = .ref a ∧ H1 a = some (.ins C dx fs) ∧ Cls K C ∧ NoAttr K C f ∧ fs.lookup f = some v ∧ Q v H1) : tFld K ta f σ H Q := q
theorem r_meth {C : Addr} {m : Str} {sp : Sp} {E : XK} (q : ta σ H fun x H1 => ∃ a dx fs, x = .ref a ∧ H1 a = some (.ins C dx fs) ∧ fs.lookup m = none ∧ tA σ H1 fun vs H2 => sp (x :: (vs ++ [])) H2 Q E) : tMeth C m sp [] E ta tA σ H Q := q
theorem r_cval {C : Addr} {mc : Value} {f : Str} {uu : Value} (h1 : ClX.CRead K C mc) (h2 : ClX.CVal K C mc f v uu) (q : Q v H) : ClX.tCVal K (tC (.ref C)) f σ H Q := ⟨C, mc, v, uu, rfl, h1, h2, q⟩
theorem r_fldV {C dx : Addr} {fs : List (Str × V)} {f : Str} (hp : H a = some (.ins C dx fs)) (hc : Cls K C) (hn : NoAttr K C f) (hl : fs.lookup f = some v) (hv : σ[i]? = some (some (.ref a))) (q : Q v H) : tFld K (tVar i) f σ H Q := ⟨.ref a, hv, a, C, dx, fs, v, rfl, hp, hc, hn, hl, q⟩
theorem r_sfld {f : Str} {tv : TE} (q : tv σ H fun y H1 => ta σ H1 fun x H2 => ∃ a C dx fs, x = .ref a ∧ H2 a = some (.ins C dx fs) ∧ Cls K C ∧ NoAttr K C f ∧ fs.length < 1000 ∧ D.nx σ (upd H2 a (.ins C dx (putF f y fs)))) : sFld K ta tv f D σ H := q
theorem r_itup (q : te σ H fun x H1 => ∃ a, x = .ref a ∧ (∃ xs, SqT K H1 a xs) ∧ R (Itt K a) H1) : iTup K te σ H R := q
theorem r_ilist (q : te σ H fun x H1 => ∃ a, x = .ref a ∧ (∃ xs, SqL K H1 a xs) ∧ R (Itl K a) H1) : iList K te σ H R := q
theorem r_istr (q : te σ H fun v H1 => ∃ x, v = .str x ∧ R (Its x) H1) : iStr te σ H R := q
theorem r_m1 {r : V → List V → Hp → VK → Prop} (q : ta σ H fun x H1 => (∃ a, x = .str a) ∧ te σ H1 fun y H2 => r x [y] H2 Q) : tM1 r ta te σ H Q := q
theorem r_m0 {r : V → List V → Hp → VK → Prop} (q : ta σ H fun x H1 => (∃ a, x = .str a) ∧ r x [] H1 Q) : tM0 r ta σ H Q := q
theorem r_isStr {z : Str} {B : Prop} (g : B) : (∃ a, V.str z = .str a) ∧ B := ⟨⟨z, rfl⟩, g⟩
theorem r_exStr {z : Str} {q : Str → Prop} (g : q z) : ∃ x, V.str z = .str x ∧ q x := ⟨z, rfl, g⟩
theorem r_gname {QG : L2.St → Hp → Prop} (q : QG (σ.set i (some v)) H) : gName i v σ H QG := q
theorem r_callD {sp : Sp} {dvs : List V} {E : XK} (q : tA σ H fun vs H1 => sp (vs ++ dvs) H1 Q E) : tCall sp dvs E tA σ H Q := q
theorem r_callN {n m : Nat} {sp : Sp} {gV : List V → List V → List V} {E : XK} {tk : TA} (q : tA σ H fun vs H1 => tk σ H1 fun zs H2 => vs.length = n ∧ zs.length = m ∧ sp (gV vs zs) H2 Q E) : tCallN n m sp gV E tA tk σ H Q := q
theorem r_dget1 (q : ta σ H fun x H1 => ∃ a, x = .ref a ∧ IsD H1 a ∧ tb σ H1 fun y H2 => ∃ o, DGet H2 a y o ∧ Q (o.getD .non) H2) : tDGet1 ta tb σ H Q := q
theorem r_dget (q : ta σ H fun x H1 => tb σ H1 fun y H2 => ∃ a v, x = .ref a ∧ DGet H2 a y (some v) ∧ Q v H2) : tDGet ta tb σ H Q := q
theorem r_disp {trs : List (TE × TE)} (q : ∀ p, H p = none → tPairs trs σ (upd H p (.dK [])) fun ps H2 => H2 p = some (.dK []) ∧ ∃ kvs : List (Key × V), ps = kvs.map (fun kv => (kV kv.1, kv.2)) ∧ kvs.length ≤ 15 ∧ Q (.ref p) (upd H2 p (.dK (mergeK [] kvs)))) : tDisp trs σ H Q := q
theorem r_pairs {trs : List (TE × TE)} {QP : List (V × V) → Hp → Prop} (q : ta σ H fun x H1 => tb σ H1 fun y H2 => tPairs trs σ H2 fun ps H3 => QP ((x, y) :: ps) H3) : tPairs ((ta, tb) :: trs) σ H QP := q
theorem r_pairs0 {QP : List (V × V) → Hp → Prop} (q : QP [] H) : tPairs [] σ H QP := q
theorem r_fldK {C dx : Addr} {fs : List (Str × V)} {f : Str} {G : V → Prop} (hp : H p = some (.ins C dx fs)) (hc : Cls K C) (hn : NoAttr K C f) (hl : fs.lookup f = some v) (q : G v) :
    ∃ a C dx fs v, V.ref p = .ref a ∧ H a = some (.ins C dx fs) ∧ Cls K C ∧ NoAttr K C f ∧ fs.lookup f = some v ∧ G v := ⟨p, C, dx, fs, v, rfl, hp, hc, hn, hl, q⟩
theorem r_gtup {n : Nat} {gs : TGs} {QG : L2.St → Hp → Prop} (h : SqT K H a xs) (hn : xs.length = n) (q : gs xs σ H QG) : gTup K n gs (.ref a) σ H QG := ⟨a, xs, rfl, h, hn, q⟩
theorem r_gcons {g : TG} {gs : TGs} {QG : L2.St → Hp → Prop} (q : g v σ H fun σ' H' => gs xs σ' H' QG) : gCons g gs (v :: xs) σ H QG := ⟨v, xs, rfl, q⟩
theorem r_gnil {QG : L2.St → Hp → Prop} (q : QG σ H) : gNil [] σ H QG := ⟨rfl, q⟩
theorem r_asgG {g : TG} (q : te σ H fun x H1 => g x σ H1 D.nx) : tAsg te g D σ H := q
theorem r_rng2 {m n : Int} {q : Int → Int → Prop} (h : q m n) : ∃ i j : Int, [V.int m, V.int n] = [.int i, .int j] ∧ q i j := ⟨m, n, rfl, h⟩
theorem r_irng2 (q : tA σ H fun vs H1 => ∃ i j : Int, vs = [.int i, .int j] ∧ (-(2 ^ 62) ≤ i ∧ i < 2 ^ 62 ∧ -(2 ^ 62) ≤ j ∧ j < 2 ^ 62) ∧ R (Itr i (j - i).toNat) H1) : iRng2 tA σ H R := q
theorem r_cat {p' : Addr} (h : H p = some (.lst xs)) (h' : H p' = some (.lst ys)) (hl : xs.length + ys.length ≤ sizeLine) (g : ∀ c, H c = none → Q (.ref c) (upd H c (.lst (xs ++ ys)))) : rCat (.ref p) (.ref p') H Q := ⟨p, p', xs, ys, rfl, rfl, h, h', hl, g⟩
theorem r_bm {T : String} {r : V → List V → Hp → VK → Prop} (q : ta σ H fun x H1 => tyV K T x H1 ∧ tA σ H1 fun xs H2 => r x xs H2 Q) : tBM K T r ta tA σ H Q := q
theorem r_tyL {B : Prop} (h : SqL K H p xs) (g : B) : tyV K "list" (.ref p) H ∧ B := ⟨.inl ⟨rfl, xs, h⟩, g⟩
theorem r_append (h : H p = some (.lst xs)) (hl : xs.length < sizeLine) (q : Q .non (upd H p (.lst (xs ++ [v])))) : rAppend (.ref p) [v] H Q := ⟨p, xs, v, rfl, rfl, h, hl, q⟩
theorem r_seq (q : t1 { D with nx := t2 D } σ H) : tSeq t1 t2 D σ H := q
theorem r_next (q : D.nx σ H) : tNext D σ H := q
theorem r_asg (q : te σ H fun x H1 => D.nx (σ.set i (some x)) H1) : tAsg te (gName i) D σ H := q
theorem r_asgS {s : TSet} (q : te σ H fun v H1 => ta σ H1 fun o H2 => tb σ H2 fun i H3 => s o i v H3 fun H4 => D.nx σ H4) : tAsg te (gSub ta tb s) D σ H := q
theorem r_ifS (q : t σ H fun b H1 => if b = true then t1 D σ H1 else t2 D σ H1) : tIfS t t1 t2 D σ H := q
theorem r_dput (q : tc σ H fun v H1 => ta σ H1 fun x H2 => tb σ H2 fun y H3 => ∃ a H4, x = .ref a ∧ DPut H3 a y v H4 ∧ D.nx σ H4) : sDPut ta tb tc D σ H := q
theorem r_ret (q : te σ H D.rt) : tRet te D σ H := q
theorem r_drop (q : te σ H fun _ H1 => D.nx σ H1) : tDrop te D σ H := q
theorem r_par {k j : Nat} (q : tA σ H fun vs H1 => ∃ v w, vs = [v, w] ∧ D.nx ((σ.set k (some v)).set j (some w)) H1) : tPar k j tA D σ H := q
theorem r_aug {tip : TIp} (h : σ[i]? = some (some x)) (q : te σ H fun y H1 => tip x y H1 fun z H2 => D.nx (σ.set i (some z)) H2) : tAug i te tip D σ H := ⟨x, h, q⟩
theorem r_match {tm : V → TS} (q : te σ H fun x H1 => tm x D σ H1) : tMatch te tm D σ H := q
theorem r_mstr {x y : Str} {tm : V → TS} (q : if decide (y = x) = true then t1 D σ H else tm (.str y) D σ H) : tmStr x t1 tm (.str y) D σ H := ⟨y, rfl, q⟩
theorem r_mnil (q : D.nx σ H) : tmNil v D σ H := q
theorem r_sl {r : V → Option Int → Option Int → Hp → VK → Prop} {tl th : TO} (q : te σ H fun x H1 => tl σ H1 fun l H2 => th σ H2 fun u H3 => r x l u H3 Q) : tSl r te tl th σ H Q := q
theorem r_nopart {QO : Option Int → Hp → Prop} (q : QO none H) : tNoPart σ H QO := q
theorem r_part {QO : Option Int → Hp → Prop} (q : te σ H fun x H1 => ∃ i, x = .int i ∧ QO (some i) H1) : tPart te σ H QO := q
theorem r_int {m : Int} {q : Int → Prop} (h : q m) : ∃ k, V.int m = .int k ∧ q k := ⟨m, rfl, h⟩
theorem r_int1 {m : Int} {q : Int → Prop} {B : Prop} (h : q m) : (∃ i, [V.int m] = [V.int i] ∧ q i) ∨ B := .inl ⟨m, rfl, h⟩
theorem r_bl1 {b : Bool} {q : Bool → Prop} {A : Prop} (h : q b) : A ∨ ∃ k, [V.bl b] = [V.bl k] ∧ q k := .inr ⟨b, rfl, h⟩
theorem r_ex1 {m : Int} {q : Int → Prop} (h : q m) : ∃ i, [V.int m] = [V.int i] ∧ q i := ⟨m, rfl, h⟩
theorem r_ex2 {m n : Int} {q : Int → Int → Prop} (h : q m n) : ∃ i j, [V.int m, V.int n] = [V.int i, V.int j] ∧ q i j := ⟨m, n, rfl, h⟩
theorem r_lenS {q : List V → Prop} (h : SqL K H p xs) (g : q xs) : ∃ a ys, [V.ref p] = [V.ref a] ∧ (SqL K H a ys ∨ SqT K H a ys) ∧ q ys := ⟨p, xs, rfl, .inl h, g⟩
theorem r_slL {lo hi : Option Int} (h : SqL K H p xs) (q : ∀ c, H c = none → Q (.ref c) (upd H c (.lst (cutV xs lo hi)))) : rSlL K (.ref p) lo hi H Q := ⟨p, xs, rfl, h, q⟩
theorem r_for {wi : TI} {g : TG} (q : wi σ H fun J H1 => ForW J g t1 D σ H1) : tFor wi g t1 D σ H := q
theorem r_lc {wi : TI} {g : TG} {tt : TT} {vs : List Nat} (q : wi σ H fun J H1 => LcW J g tt te vs σ H1 Q) : tLc wi g tt te vs σ H Q := q
theorem r_irng1 (q : tA σ H fun vs H1 => ∃ j : Int, vs = [.int j] ∧ -(2 ^ 62) ≤ j ∧ j < 2 ^ 62 ∧ R (Itr 0 j.toNat) H1) : iRng1 tA σ H R := q
theorem r_iteT {c : Prop} [Decidable c] {A B : Prop} (h : c) (q : A) : if decide c = true then A else B := by rw [if_pos (decide_eq_true h)]; exact q
theorem r_iteF {c : Prop} [Decidable c] {A B : Prop} (h : ¬ c) (q : B) : if decide c = true then A else B := by rw [if_neg (by simpa using h)]; exact q
theorem r_iteNT {c : Prop} [Decidable c] {A B : Prop} (h : ¬ c) (q : A) : if (!decide c) = true then A else B := by rw [if_pos (by simpa using h)]; exact q
theorem r_iteNF {c : Prop} [Decidable c] {A B : Prop} (h : c) (q : B) : if (!decide c) = true then A else B := by rw [if_neg (by simpa using h)]; exact q
theorem ite_join {c : Prop} [Decidable c] (Z : VK) (h1 : c → ∀ Q : VK, (∀ v H', Z v H' → Q v H') → ta σ H Q) (h2 : ¬ c → ∀ Q : VK, (∀ v H', Z v H' → Q v H') → tb σ H Q) (q : ∀ v H', Z v H' → Q v H') : if decide c = true then ta σ H Q else tb σ H Q := by
  by_cases h : c
  · rw [if_pos (decide_eq_true h)]; exact h1 h Q q
  · rw [if_neg (by simpa using h)]; exact h2 h Q q
theorem r_make {C : Addr} {sp : Sp} {E : XK} (q : tA σ H fun vs H1 => ∀ x dx, H1 x = none → H1 dx = none → dx ≠ x → sp (.ref x :: (vs ++ [])) (upd (upd H1 dx (.own x)) x (.ins C dx [])) (fun v H2 => v = .non ∧ Q (.ref x) H2) E) : tMake C sp [] E tA σ H Q := q
theorem r_addS {m n : Str} {q : Str → Str → Prop} (h : m.length + n.length ≤ sizeLine) (g : q m n) : ∃ i j, V.str m = .str i ∧ V.str n = .str j ∧ i.length + j.length ≤ sizeLine ∧ q i j := ⟨m, n, rfl, rfl, h, g⟩
theorem iteNt {A B : Prop} (h : B) : if (!true) = true then A else B := h
theorem iteNf {A B : Prop} (h : A) : if (!false) = true then A else B := h
theorem r_ite2 {c : Prop} [Decidable c] {A B : Prop} (h1 : c → A) (h2 : ¬ c → B) : if decide c = true then A else B := by
  by_cases h : c
  · exact r_iteT h (h1 h)
  · exact r_iteF h (h2 h)
theorem r_iteN2 {c : Prop} [Decidable c] {A B : Prop} (h1 : ¬ c → A) (h2 : c → B) : if (!decide c) = true then A else B := by
  by_cases h : c
  · exact r_iteNF h (h2 h)
  · exact r_iteNT h (h1 h)
end

theorem at_start {t : TS} {D : Ends} {σ σ0 : L2.St} {H : Hp} (h : σ0 = σ) (q : t D σ H) : t D σ0 H := h ▸ q
theorem cx_K {CX : CXT} {P : Program} {w : World} {K : PySem.W.Frag} {mg : Str → Option Value} {base : Heap} {N : List Str} {qual : Str} {sc : Scope} {f : Addr} {cd : Value} {A : Around} {outer : List Env} {s : Shared} {H : Hp} {E : XK} : (cxOf CX P w K mg base N qual sc f cd A outer s H E).nox.K = K := rfl
theorem mul_bd {x y A B : Int} (h0 : 0 ≤ x) (h1 : x ≤ A) (h2 : 0 ≤ y) (h3 : y ≤ B) : 0 ≤ x * y ∧ x * y ≤ A * B := ⟨Int.mul_nonneg h0 h2, Int.mul_le_mul h1 h3 h2 (Int.le_trans h0 h1)⟩
/-! ### flat lists compared -/
theorem dp_ints {K : PySem.W.Frag} {H : Hp} : ∀ ns : List Int, DpAll K H (ns.map V.int) (ns.map PyData.int)
  | [] => .nil
  | n :: r => .cons (.int n) (dp_ints r)
theorem lay_ints : ∀ ns : List Int, PyData.canLayAll0 (ns.map PyData.int) = true
  | [] => rfl
  | n :: r => by
    show (PyData.canLay0 (.int n) && PyData.canLayAll0 (r.map PyData.int)) = true
    rw [lay_ints r]; rfl
theorem depth_ints : ∀ ns : List Int, PyData.depthAll (ns.map PyData.int) = 0
  | [] => rfl
  | n :: r => by
    show max (PyData.depth (.int n)) (PyData.depthAll (r.map PyData.int)) = 0
    rw [depth_ints r]; rfl
theorem shaped_ints (ns : List Int) : SeqAt.shaped (.list (ns.map PyData.int)) = true := by
  show (PyData.canLayAll0 (ns.map PyData.int) && decide (PyData.depthAll (ns.map PyData.int) + 1 ≤ 64)) = true
  rw [lay_ints, depth_ints]; rfl
theorem eqv_ints : ∀ ns ms : List Int, PyData.eqvAll (ns.map PyData.int) (ms.map PyData.int) = decide (ns = ms)
  | [], [] => rfl
  | [], _ :: _ => rfl
  | _ :: _, [] => rfl
  | n :: r, m :: q => by
    show ((n == m) && PyData.eqvAll (r.map PyData.int) (q.map PyData.int)) = decide (n :: r = m :: q)
    rw [eqv_ints r q]
    by_cases h1 : n = m <;> by_cases h2 : r = q <;> simp [h1, h2]
theorem eqT_shaped (ns : List Int) : SeqAt.shaped (.tuple (ns.map PyData.int)) = true := by
  show (PyData.canLayAll0 (ns.map PyData.int) && decide (PyData.depthAll (ns.map PyData.int) + 1 ≤ 64)) = true
  rw [lay_ints, depth_ints]; rfl
theorem r_neIntsT {K : PySem.W.Frag} {H : Hp} {Q : VK} {a b : Addr} {ns ms : List Int} (h : SqT K H a (ns.map V.int)) (h' : SqT K H b (ms.map V.int)) (q : Q (.bl (!decide (ns = ms))) H) : rNeD K (.ref a) (.ref b) H Q :=
  ⟨_, _, .tup h (dp_ints ns), .tup h' (dp_ints ms), eqT_shaped ns, eqT_shaped ms, (show Q (.bl (!PyData.eqvAll (ns.map PyData.int) (ms.map PyData.int))) H by rw [eqv_ints]; exact q)⟩
theorem r_eqInts {K : PySem.W.Frag} {H : Hp} {Q : VK} {a b : Addr} {ns ms : List Int} (h : SqL K H a (ns.map V.int)) (h' : SqL K H b (ms.map V.int)) (q : Q (.bl (decide (ns = ms))) H) : rEqD K (.ref a) (.ref b) H Q :=
  ⟨_, _, .lst h (dp_ints ns), .lst h' (dp_ints ms), shaped_ints ns, shaped_ints ms, (show Q (.bl (PyData.eqvAll (ns.map PyData.int) (ms.map PyData.int))) H by rw [eqv_ints]; exact q)⟩
theorem r_neInts {K : PySem.W.Frag} {H : Hp} {Q : VK} {a b : Addr} {ns ms : List Int} (h : SqL K H a (ns.map V.int)) (h' : SqL K H b (ms.map V.int)) (q : Q (.bl (!decide (ns = ms))) H) : rNeD K (.ref a) (.ref b) H Q :=
  ⟨_, _, .lst h (dp_ints ns), .lst h' (dp_ints ms), shaped_ints ns, shaped_ints ms, (show Q (.bl (!PyData.eqvAll (ns.map PyData.int) (ms.map PyData.int))) H by rw [eqv_ints]; exact q)⟩
theorem inV_strs {z : Str} : ∀ zs : List Str, inV (.str z) (zs.map V.str) = decide (z ∈ zs)
  | [] => by simp [inV]
  | y :: r => by
    have ih := inV_strs (z := z) r
    unfold inV at ih ⊢
    rw [List.map_cons, List.any_cons, ih]
    show (decide (y = z) || decide (z ∈ r)) = decide (z ∈ y :: r)
    by_cases e : y = z
    · subst e; simp
    · have e' : ¬ z = y := fun q => e q.symm
      simp [e, e']
theorem inV_ints {z : Int} : ∀ zs : List Int, inV (.int z) (zs.map V.int) = decide (z ∈ zs)
  | [] => by simp [inV]
  | y :: r => by
    have ih := inV_ints (z := z) r
    unfold inV at ih ⊢
    rw [List.map_cons, List.any_cons, ih]
    show ((y == z) || decide (z ∈ r)) = decide (z ∈ y :: r)
    by_cases e : y = z
    · subst e; simp
    · have e' : ¬ z = y := fun q => e q.symm
      simp [e, e']
theorem flat_ints : ∀ zs : List Int, (zs.map V.int).all flatV = true
  | [] => rfl
  | y :: r => by rw [List.map_cons, List.all_cons, flat_ints r]; rfl
theorem r_notInI {K : PySem.W.Frag} {H : Hp} {Q : VK} {p : Addr} {z : Int} {zs : List Int} (h : SqL K H p (zs.map V.int) ∨ SqT K H p (zs.map V.int)) (q : Q (.bl (!decide (z ∈ zs))) H) : rIn K true (.int z) (.ref p) H Q :=
  ⟨p, _, rfl, h, rfl, flat_ints zs, (show Q (.bl (!inV (.int z) (zs.map V.int))) H by rw [inV_ints]; exact q)⟩
theorem r_inI {K : PySem.W.Frag} {H : Hp} {Q : VK} {p : Addr} {z : Int} {zs : List Int} (h : SqL K H p (zs.map V.int) ∨ SqT K H p (zs.map V.int)) (q : Q (.bl (decide (z ∈ zs))) H) : rIn K false (.int z) (.ref p) H Q :=
  ⟨p, _, rfl, h, rfl, flat_ints zs, (show Q (.bl (inV (.int z) (zs.map V.int))) H by rw [inV_ints]; exact q)⟩
theorem flat_strs : ∀ zs : List Str, (zs.map V.str).all flatV = true
  | [] => rfl
  | y :: r => by rw [List.map_cons, List.all_cons, flat_strs r]; rfl
theorem r_notInS {K : PySem.W.Frag} {H : Hp} {Q : VK} {p : Addr} {z : Str} {zs : List Str} (h : SqL K H p (zs.map V.str) ∨ SqT K H p (zs.map V.str)) (q : Q (.bl (!decide (z ∈ zs))) H) : rIn K true (.str z) (.ref p) H Q :=
  ⟨p, _, rfl, h, rfl, flat_strs zs, (show Q (.bl (!inV (.str z) (zs.map V.str))) H by rw [inV_strs]; exact q)⟩
theorem r_inS {K : PySem.W.Frag} {H : Hp} {Q : VK} {p : Addr} {z : Str} {zs : List Str} (h : SqL K H p (zs.map V.str) ∨ SqT K H p (zs.map V.str)) (q : Q (.bl (decide (z ∈ zs))) H) : rIn K false (.str z) (.ref p) H Q :=
  ⟨p, _, rfl, h, rfl, flat_strs zs, (show Q (.bl (inV (.str z) (zs.map V.str))) H by rw [inV_strs]; exact q)⟩
/-! ### heaps -/
theorem upd_new {H : Hp} {a p : Addr} {o u : HO} (hn : H p = none) (h : H a = some u) : upd H p o a = some u := by rw [upd_ne (ne_of_none h hn)]; exact h
theorem same_new {H : Hp} {p : Addr} {o : HO} (hn : H p = none) : Same H (upd H p o) := fun _ _ e => upd_new hn e
theorem Same.up {H H' : Hp} {a : Addr} {o : HO} (s : Same H H') (h : H a = some o) : H' a = some o := s a o h
theorem same_mut {H H' : Hp} {p : Addr} {o : HO} (s : Same H H') (hn : H p = none) : Same H (upd H' p o) := fun _ _ e => by rw [upd_ne (ne_of_none e hn)]; exact s _ _ e
theorem same_seqT {K : PySem.W.Frag} {H H' : Hp} {a : Addr} {xs : List V} (e : Same H H') (h : SqT K H a xs) : SqT K H' a xs := by
  rcases h with (h | ⟨o, h⟩) | h
  · exact .inl (.inl (e _ _ h))
  · exact .inl (.inr ⟨o, e _ _ h⟩)
  · exact .inr h
theorem small1000' {n : Nat} (h : n ≤ 10000) : n < sizeLine := Nat.lt_of_le_of_lt h (by decide)
/-- a comprehension whose test and element are pure -/
theorem lc_all {J : It} {n : Nat} {G : Hp → Prop} {Y : Nat → Hp → V → Hp → Prop} (wk : Walk J n G Y) {tt : TT} {te : TE} {vs : List Nat} {σ : L2.St} {H1 : Hp} {Q : VK} {j : Nat} (yv : Nat → V) (f : Nat → Bool) (v : Nat → V) (hn : n ≤ 10000)
    (hY : ∀ i H x H', i < n → Y i H x H' → H' = H ∧ x = yv i) (hG : ∀ H', Same H1 H' → G H') (hw : ∀ x, wipe ((wipe σ vs).set j (some x)) vs = wipe σ vs)
    (ht : ∀ i H', i < n → Same H1 H' → ∀ QT : Bool → Hp → Prop, (∀ H2, Same H' H2 → QT (f i) H2) → tt ((wipe σ vs).set j (some (yv i))) H' QT)
    (he : ∀ i H', i < n → f i = true → Same H1 H' → ∀ Q : VK, (∀ H2, Same H' H2 → Q (v i) H2) → te ((wipe σ vs).set j (some (yv i))) H' Q)
    (hd : ∀ D H', H1 D = none → Same H1 H' → H' D = some (.lst (Evl.given n f v)) → Q (.ref D) H') :
    LcW J (gName j) tt te vs σ H1 Q := by
  intro D hD
  refine lc_it wk (Qd := fun H => Q (.ref D) H) (fun i H => Same H1 H ∧ H D = some (.lst (Evl.given i f v))) ⟨same_new hD, upd_same⟩ (fun i H _ p => hG H p.1) (fun i x H H' hi p y => ?_) (fun H p => hd D H hD p.1 p.2)
  obtain ⟨rfl, rfl⟩ := hY i H x H' hi y
  refine ⟨hw _, ?_⟩
  refine ht i _ hi p.1 _ fun H2 s2 => ?_
  cases e : f i with
  | true =>
    refine iteT ?_
    refine he i H2 hi e (p.1.trans s2) _ fun H3 s3 => ?_
    refine ⟨_, s3 _ _ (s2 _ _ p.2), small1000' (Nat.le_trans (Evl.given_len i f v) (by omega)), same_mut ((p.1.trans s2).trans s3) hD, ?_⟩
    rw [upd_same, Evl.given_yes e]
  | false =>
    refine iteF ?_
    refine ⟨p.1.trans s2, ?_⟩
    rw [s2 _ _ p.2, Evl.given_no e]
theorem range_get {α : Type} (xs : List α) (d : α) : (List.range xs.length).map (fun i => xs.getD i d) = xs := by
  refine List.ext_getElem (by simp) fun i h1 h2 => ?_
  simp [List.getElem?_eq_getElem h2]
theorem given_filter {α : Type} (xs : List α) (d : α) (p : α → Bool) (g : α → V) : Evl.given xs.length (fun i => p (xs.getD i d)) (fun i => g (xs.getD i d)) = (xs.filter p).map g := by
  unfold Evl.given
  have e := range_get xs d
  have h2 : (List.range xs.length).filter (fun i => p (xs.getD i d)) = (List.range xs.length).filter (p ∘ fun i => xs.getD i d) := rfl
  have h3 : ((List.range xs.length).filter (p ∘ fun i => xs.getD i d)).map (g ∘ fun i => xs.getD i d) = (xs.filter p).map g := by
    rw [← List.map_map, ← List.filter_map, e]
  exact h3
theorem given_map {α : Type} (xs : List α) (d : α) (g : α → V) : Evl.given xs.length (fun _ => true) (fun i => g (xs.getD i d)) = xs.map g := by
  have h := given_filter xs d (fun _ => true) g
  rw [List.filter_eq_self.mpr (fun _ _ => rfl)] at h
  exact h
theorem atI_map {α : Type} {xs : List α} {g : α → V} {r : Int} (h0 : 0 ≤ r) (h1 : r < (xs.length : Int)) : ∃ x ∈ xs, atI (xs.map g) r = some (g x) := by
  obtain ⟨n, rfl⟩ : ∃ n : Nat, r = (n : Int) := ⟨r.toNat, by omega⟩
  have hl : n < xs.length := by omega
  refine ⟨xs[n], List.getElem_mem hl, ?_⟩
  exact atI_nat (by simp [hl])
theorem YAt_get {α : Type} {xs : List α} {d : α} {g : α → V} {i : Nat} {H : Hp} {x : V} {H' : Hp} (hi : i < (xs.map g).length) (y : YAt (xs.map g) i H x H') : H' = H ∧ x = g (xs.getD i d) := by
  obtain ⟨rfl, e⟩ := y
  refine ⟨rfl, ?_⟩
  have hl : i < xs.length := by simpa using hi
  rw [List.getElem?_map, List.getElem?_eq_getElem hl] at e
  have e' : g xs[i] = x := Option.some.inj e
  rw [← e', List.getD_eq_getElem?_getD, List.getElem?_eq_getElem hl]
  rfl
theorem r_isiS {K : PySem.W.Frag} {H : Hp} {Q : VK} {z : Str} (q : Q (.bl true) H) : rIsi K [.str z, .ty "str"] H Q := ⟨_, _, .type "str", _, _, rfl, .ty _, .base (.str z), kit_ty (by decide +kernel), q⟩
theorem cutV_take (xs : List V) (n : Nat) : cutV xs none (some (n : Int)) = xs.take n := by
  unfold cutV
  rw [HT.sIx_none, HT.sIx_nat]
  simp only [List.drop_zero, Nat.sub_zero]
  by_cases h : n ≤ xs.length
  · rw [Nat.min_eq_left h]
  · rw [Nat.min_eq_right (by omega), List.take_length, List.take_of_length_le (by omega)]
theorem decI {a b : Int} : decide (V.int a = V.int b) = decide (a = b) := by
  by_cases h : a = b
  · rw [h]; simp
  · rw [decide_eq_false h, decide_eq_false fun z => h (V.int.inj z)]
theorem decS {a b : Str} : decide (V.str a = V.str b) = decide (a = b) := by
  by_cases h : a = b
  · rw [h]; simp
  · rw [decide_eq_false h, decide_eq_false fun z => h (V.str.inj z)]
/-- a list of truths made by a comprehension -/
theorem given_bl {α : Type} (xs : List α) (d : α) (p : α → Bool) : Evl.given xs.length (fun _ => true) (fun i => V.bl (p (xs.getD i d))) = (xs.map p).map V.bl := by
  rw [given_map xs d (fun x => V.bl (p x)), List.map_map]
  rfl
theorem given_int {α : Type} (xs : List α) (d : α) (p : α → Int) : Evl.given xs.length (fun _ => true) (fun i => V.int (p (xs.getD i d))) = (xs.map p).map V.int := by
  rw [given_map xs d (fun x => V.int (p x)), List.map_map]
  rfl
theorem all_id {α : Type} (xs : List α) (p : α → Bool) : (xs.map p).all id = xs.all p := by
  rw [List.all_map]
  rfl
def optV : Option Int → V
  | none => .non
  | some i => .int i
theorem strEq {a b : Str} (h : V.str a = V.str b) : a = b := V.str.inj h
theorem strNe {a b : Str} (h : ¬ V.str a = V.str b) : ¬ a = b := fun z => h (by rw [z])
theorem intEq {a b : Int} (h : V.int a = V.int b) : a = b := V.int.inj h
theorem intNe {a b : Int} (h : ¬ V.int a = V.int b) : ¬ a = b := fun z => h (by rw [z])
theorem r_iteS2 {a b : Str} {A B : Prop} (h1 : a = b → A) (h2 : ¬ a = b → B) : if decide (V.str a = V.str b) = true then A else B := r_ite2 (fun h => h1 (strEq h)) (fun h => h2 (strNe h))
theorem r_iteI2 {a b : Int} {A B : Prop} (h1 : a = b → A) (h2 : ¬ a = b → B) : if decide (V.int a = V.int b) = true then A else B := r_ite2 (fun h => h1 (intEq h)) (fun h => h2 (intNe h))
theorem r_iteB {b : Bool} {A B : Prop} (h1 : b = true → A) (h2 : b = false → B) : if b = true then A else B := by
  cases b
  · exact iteF (h2 rfl)
  · exact iteT (h1 rfl)
theorem r_iteBN {b : Bool} {A B : Prop} (h1 : b = false → A) (h2 : b = true → B) : if (!b) = true then A else B := by
  cases b
  · exact iteT (h1 rfl)
  · exact iteF (h2 rfl)
theorem val_to {Q : VK} {v v' : V} {H : Hp} (z : Q v H) (e : v = v') : Q v' H := e ▸ z
theorem r_isiO {K : PySem.W.Frag} {H : Hp} {Q : VK} {o : Option Int} (q : Q (.bl false) H) : rIsi K [optV o, .ty "bool"] H Q := by
  cases o with
  | none => exact ⟨_, _, .type "NoneType", _, _, rfl, .ty _, .base .non, kit_ty (by decide +kernel), q⟩
  | some i => exact ⟨_, _, .type "int", _, _, rfl, .ty _, .base (.int i), kit_ty (by decide +kernel), q⟩
theorem r_neO {H : Hp} {Q : VK} {o : Option Int} (q : Q (.bl false) H) : rNe (optV o) (optV o) H Q := by
  refine ⟨by cases o <;> rfl, ?_⟩
  rw [decide_eq_true rfl]
  exact q
theorem r_isNone {B : Prop} (q : B) : V.non = V.non ∧ B := ⟨rfl, q⟩
theorem r_neB {H : Hp} {Q : VK} {b : Bool} (q : Q (.bl false) H) : rNe (.bl b) (.bl b) H Q := by
  refine ⟨rfl, ?_⟩
  rw [decide_eq_true rfl]
  exact q
theorem putF_le (f : Str) (v : V) : ∀ fs : List (Str × V), (putF f v fs).length ≤ fs.length + 1
  | [] => Nat.le_refl _
  | (g, x) :: r => by
    unfold putF
    split
    · simp
    · have := putF_le f v r
      simp only [List.length_cons]
      omega
theorem putF_lt {f : Str} {v : V} {fs : List (Str × V)} {n m : Nat} (h : fs.length + (n + 1) < m) : (putF f v fs).length + n < m := by
  have := putF_le f v fs
  omega
theorem putF_lt0 {f : Str} {v : V} {fs : List (Str × V)} {m : Nat} (h : fs.length + 1 < m) : (putF f v fs).length < m := putF_lt (n := 0) h
theorem sz_lit {n : Nat} (h : n ≤ 1000) : n ≤ sizeLine := Nat.le_of_lt (small1000 h)
end KB

/-! KG: own layer: defs called while no repr is under way (A.guards = some []); repr of data. -/
namespace KG
open PySem PySem.Spec PyProof.Rows L2 KB
abbrev Free (A : Around) : Prop := A.guards = some []
theorem free_deeper {A : Around} (g : Free A) (env : Env) : Free (A.deeper env) := g
/-- as FnOk, asked only where no repr is under way -/
structure FnG (P : Program) (w : World) (K : PySem.W.Frag) (mg : Str → Option Value) (base : Heap) (CX : CXT) (k : Nat) (f : Addr) (fd : FuncData) (ps : List Str) (sp : Sp) : Prop where
  size : ∀ xs h Z W, sp xs h Z W → xs.length = ps.length
  go : ∀ (A : Around), Free A → ∀ (out : List Env) (st : Shared) (h : Hp) (ar : Args) (ws : List Value) (xs : List V) (Z : VK) (W : XK), Room k A → Env0 P w K mg base A out st h → BindsTo st fd ar (ps.zip ws) → Vals xs ws → sp xs h Z W →
    codeAny (model P w) A (.call (.ref f) ar) (CR CX out P w h st Z W) st
theorem FnG.of {P : Program} {w : World} {K : PySem.W.Frag} {mg : Str → Option Value} {base : Heap} {CX : CXT} {k : Nat} {f : Addr} {fd : FuncData} {ps : List Str} {sp : Sp} (F : FnOk P w K mg base CX k f fd ps sp) : FnG P w K mg base CX k f fd ps sp :=
  ⟨F.len, fun A _ => F.run A⟩
section
variable {P : Program} {w : World} {K : PySem.W.Frag} {mg : Str → Option Value} {base : Heap} {CX : CXT}
theorem fnG_body {k : Nat} {f : Addr} {nm ql : Str} {pr : Arguments} {bd : List Stmt} {sc : Scope} {v1 v2 v3 v4 cv v5 v6 : Value} {a1 a2 : Option Addr} {slots : Array (Option Value)} {N ps : List Str} {sp : Sp}
    (look : K.lookup f = some ⟨v6, a2, .func (PySem.W.fnOf nm ql pr bd sc v1 v2 v3 v4 a1 cv v5), slots⟩) (code : PySem.W.codeIn K cv ql = true) (S : FnScope N ps sc) (size : ∀ xs h Z W, sp xs h Z W → xs.length = ps.length)
    (body : ∀ (A : Around) (out : List Env) (st : Shared) (h : Hp) (xs : List V) (Z : VK) (W : XK), Room k (A.deeper (envOfC ql sc st.heap.objs.size f cv)) → Free A → sp xs h Z W →
      ∃ t, PSs (cxOf CX P w K mg base N ql sc f cv A out st h W) bd t ∧ t { nx := fun _ h' => Z .non h', rt := Z } (start N xs) h) :
    FnG P w K mg base CX (k + 1) f (PySem.W.fnOf nm ql pr bd sc v1 v2 v3 v4 a1 cv v5) ps sp := by
  refine ⟨size, fun A fr out st h ar ws xs Z W room env bind vals pre => ?_⟩
  have kin : K.In st.heap := env.mod.kin.keeps fun b o q => (env.bs b o q).1
  have nolim : st.heap.NoLimit := env.mod.nolimit.keeps fun b o q => (env.bs b o q).1
  have kinds : ∀ y ∈ ps.zip ws, sc.names.lookup y.1 = some .local ∨ (sc.names.lookup y.1 = some .cell ∧ ((cellsFrom (st.heap.objs.size + 1) sc.names []).lookup y.1).isSome = true) := by
    intro y hy
    obtain ⟨n, v⟩ := y
    cases S.par n (List.of_mem_zip hy).1 with
    | inl z => exact .inl z
    | inr z => exact .inr ⟨z, PySem.W.cellsFrom_some _ _ _ (.inl z)⟩
  refine codeAny_call_function room.depth (kin _ _ look) rfl S.co S.gen rfl (PySem.W.codeRec_of kin code) (bind _ _ _ _ ?_)
  refine wpAny_newFunctionEnv_cells S.kind kinds fun en he st1 inc => ?_
  subst he
  refine ⟨nolim.keeps inc.toInCall.keep, codeAny_func ?_⟩
  obtain ⟨t, drv, rdg⟩ := body A out st h xs Z W (room.deeper _) fr pre
  have inv : Inv (cxOf CX P w K mg base N ql sc f cv A out st h W) [] (start N xs) h st1 := inv_start S room.hd env (size _ _ _ _ pre) vals inc
  refine wpAny_mono (drv.run [] st1 (start N xs) h _ inv rdg) (fun flow st2 res => ?_) fun _ _ z => z
  cases flow with
  | ret u => exact let ⟨v, _, h2, J, rel, z⟩ := res; ⟨v, h2, J.os, J.bare, J.base, J.hok, rel, z⟩
  | next => exact let ⟨_, h2, J, z⟩ := res; ⟨.non, h2, J.os, J.bare, J.base, J.hok, rfl, z⟩
  | brk => exact (let ⟨_, _, _, z⟩ := res; z : False).elim
  | cont => exact (let ⟨_, _, _, z⟩ := res; z : False).elim
/-- the rule for a def of the text, nothing raised out of it -/
theorem fun_okG {x ql : Str} {stm : Stmt} {f : Addr} {fd : FuncData} {N ps : List Str} {k : Nat} {sp : Sp} (F : Fun K x ql stm f fd) (S : FnScope N ps (defScope stm)) (size : ∀ xs h Z W, sp xs h Z W → xs.length = ps.length)
    (body : ∀ (cv : Value) (A : Around) (out : List Env) (st : Shared) (h : Hp) (xs : List V) (Z : VK) (W : XK), Room k (A.deeper (envOfC ql (defScope stm) st.heap.objs.size f cv)) → Free A → sp xs h Z W →
      ∃ t, PSs (cxOf CX0 P w K mg base N ql (defScope stm) f cv A out st h W).nox (defBody stm) t ∧ t { nx := fun _ h' => Z .non h', rt := Z } (start N xs) h) : FnG P w K mg base CX0 (k + 1) f fd ps sp := by
  obtain ⟨c1, c2, c3, c4, c5, c6, cv, c8, c9, rfl, look, code⟩ := F.ex
  refine fnG_body look code S size fun A out st h xs Z W room fr pre => ?_
  obtain ⟨t, drv, rdg⟩ := body cv A out st h xs Z W room fr pre
  exact ⟨t, drv.nox, rdg⟩
end
/-! ### calls -/
section
variable {X : Cx} {CX : CXT}
theorem runG {k : Nat} {f : Addr} {fd : FuncData} {ps : List Str} {sp : Sp} {E : XK} {dv : List V} {dw : List Value} {pins : List (Addr × Obj)} {σ : L2.St} {h : Hp} {st : Shared} {Z : VK} {ws : List Value} {xs : List V} (F : FnG X.prog X.w X.K X.mg X.base CX k f fd ps sp) (fr : Free X.A) (room : Room k X.A)
    (bind : Binds X.K fd ps dw) (dr : Vals dv dw) (pass : Passes CX X E) (inv : Inv X pins σ h st) (rel : Vals xs ws) (pre : sp (xs ++ dv) h Z E) : wpAny (model X.prog X.w) X.A (call (.ref f) ws) (EP X pins σ Z) X.xe st := by
  have rel2 := rel.append dr
  have size : (ws ++ dw).length = ps.length := rel2.length.symm.trans (F.size _ _ _ _ pre)
  refine wpAny_call (codeAny_mono (F.go X.A fr X.stack st h ⟨ws, []⟩ _ _ Z E room inv.env0 (bind st ws inv.kIn size) rel2 pre) fun res st2 z => ?_)
  match res, z with
  | .error e, z => exact pass pins σ h st e st2 inv z
  | .ok (.ret u), z => exact inv.after z
  | .ok .next, z => exact z.elim
  | .ok .brk, z => exact z.elim
  | .ok .cont, z => exact z.elim
structure CalleeG (P : Program) (w : World) (K : PySem.W.Frag) (mg : Str → Option Value) (base : Heap) (CX : CXT) (k : Nat) (x : Str) (ps : List Str) (sp : Sp) : Prop where
  ex : ∃ (f : Addr) (fd : FuncData), FnG P w K mg base CX k f fd ps sp ∧ mg x = some (.ref f) ∧ PySem.W.keepIn K (.ref f) = true ∧ Binds K fd ps []
theorem pe_callG {k : Nat} {x : Str} {ps : List Str} {sp : Sp} {E : XK} {e : Expr} {es : List Expr} {p pos : Pos} {t : TA} (c : CalleeG X.prog X.w X.K X.mg X.base CX k x ps sp) (fr : Free X.A) (room : Room k X.A) (gl : Gl X x) (pass : Passes CX X E) (ha : PA X (e :: es) t)
    (d1 : (x == ("__debug__" : Str)) = false := by decide) (d2 : starEach (e :: es) X.env = (false, eval e X.env) :: starEach es X.env := by rfl) (d3 : (backTo pos (starEach es X.env)).any (·.1) = false := by rfl) :
    PE X (.Call (.Name x p) (e :: es) [] pos) (tCall sp [] E t) := by
  obtain ⟨f, fd, F, look, keep, bind⟩ := c.ex
  refine ⟨fun pins st σ h Z inv pre => wpAny_Call_Name_kw (ld_glob inv gl look ?_ d1)⟩
  refine PySem.W.callWith_K (h₀ := X.base) inv.ok.mod.kin keep (thn (ha.run pos pins st σ h _ inv pre) fun ws st1 res => ?_) d2 d3
  obtain ⟨xs, h1, inv1, rel, z⟩ := res
  exact ⟨inv1.kIn, runG F fr room bind .nil pass inv1 rel z⟩
end
/-! ### repr of data -/
section
variable {P : Program} {w : World} {A : Around} {E : Value → Shared → Prop} {s : Shared} {Z : Value → Shared → Prop}
theorem repr_slot {v : Value} {T id : String} (hu : A.units + 2 < cLine) (ty : s.TypeIs v T) (slot : SlotG T "__repr__" id)
    (h : wpAny (model P w) A.in1 (callSpecialIfBound? v (Str.ofString "__repr__")) (fun r st => ∃ (y : Str) (u : Tok), r = some (.str y u) ∧ Z (.str y u) st) E s) : wpAny (model P w) A (call (.builtin "repr") [v]) Z E s := by
  refine (Calls.call_function_entry F.kind_repr F.plain_repr F.entry_repr (F.args_repr1 _) ?_); unfold Builtin.«repr»
  refine (wpAny_bind (m := oneArg "repr" _) (wpAny_pure ?_))
  refine (wpAny_bind (wpAny_cRoomFor (show A.units + 1 < cLine by omega) ?_))
  refine (wpAny_bind (wpAny_specialOf (name := Str.ofString "__repr__") ty slot.lookup ?_))
  refine (wpAny_bind (m := callSpecialIfBound? v (Str.ofString "__repr__")) (wpAny_mono h (fun r st z => ?_) fun _ _ z => z))
  obtain ⟨y, u, rfl, z⟩ := z
  refine (wpAny_bind (wpAny_isInstance (T := "str") (b := true) rfl isSubtype_str_str ?_))
  exact (wpAny_pure ⟨.str y u, rfl, z⟩)
theorem repr_data {v : Value} {d : PyData} {as : List Addr} (r : Reads s.heap v d as) (ok : d.showable = true) (nod : d.hasDict = false) (sz : d.shown.length ≤ sizeLine) (fr : Free A) (hu : A.units + d.depth + 3 < cLine)
    (q : ∀ h' u tk, (∀ b o, s.heap.get? b = some o → h'.get? b = some o) → Z (.str d.shown u) { s with heap := h', toks := tk }) : wpAny (model P w) A (call (.builtin "repr") [v]) Z E s := by
  have nosys : d.hasDict = true → sysModules ∉ as := fun z => by rw [nod] at z; cases z
  cases r with
  | none =>
    simp only [PyData.shown] at q
    exact PySem.P.repr_of_none (q s.heap _ _ fun _ _ e => e)
  | bool b =>
    simp only [PyData.shown] at q
    exact PySem.P.repr_of_bool (q s.heap _ _ fun _ _ e => e)
  | int i t =>
    simp only [PyData.shown] at q
    exact PySem.P.repr_of_int (by simpa [PyData.showable] using ok) (q s.heap _ _ fun _ _ e => e)
  | str x t =>
    simp only [PyData.shown] at q sz
    exact PySem.P.repr_of_str (q s.heap _ _ fun _ _ e => e) sz
  | @list a o vs n xs as1 h1 h2 h3 h4 =>
    have sz' : (listText (PyData.shownAll xs)).length ≤ sizeLine := by simpa only [PyData.shown] using sz
    have ok' : PyData.showableAll xs = true := by simpa [PyData.showable] using ok
    have whole : Reads s.heap (.ref a) (.list xs) _ := .list h1 h2 h3 h4
    obtain ⟨bs, lim, kids⟩ := ReprAllK.of_readsAll (prog := P) (w := w) h4 ok' (fun z m => nosys (by simpa [PyData.hasDict] using z) (List.mem_cons_of_mem _ m)) (fun t ht => Nat.le_trans (listText_mem_le ht) sz')
    have off : a ∉ bs := not_mem_of_deeper whole (by simp only [PyData.depth]; omega) lim
    simp only [PyData.depth] at hu
    simp only [PyData.shown] at q
    have ty : s.TypeIs (.ref a) "list" := ⟨_, h1, h2⟩
    refine repr_slot (by omega) ty F.slot_list_repr.toG ?_
    obtain ⟨l⟩ := vs
    cases l with
    | nil =>
      have h4' : ReadsAll s.heap [] xs _ := h4
      cases h4'
      simp only [PyData.shownAll, listText_nil] at q
      refine (wpAny_callSpecialIfBound?_slot (name := Str.ofString "__repr__") ty F.slot_list_repr (call_list_repr_empty ty h1 h3 ?_))
      exact ⟨_, _, rfl, q s.heap _ _ fun _ _ e => e⟩
    | cons x l =>
      refine (wpAny_callSpecialIfBound?_slot (name := Str.ofString "__repr__") ty F.slot_list_repr (call_list_reprK h1 h2 h3 off (by simpa using kids.length_eq) (fun i y e => kids.item i y (by simpa using e)) fr (fun b _ => Clear.nil b) (show A.units + 1 + _ < cLine by omega) (fun _ _ e => e) (fun h' u tk kp => ?_) sz'))
      exact ⟨_, _, rfl, q h' u tk kp⟩
  | @tuple a o vs n xs as1 h1 h2 h3 h4 =>
    have sz' : (tupleText (PyData.shownAll xs)).length ≤ sizeLine := by simpa only [PyData.shown] using sz
    have ok' : PyData.showableAll xs = true := by simpa [PyData.showable] using ok
    have whole : Reads s.heap (.ref a) (.tuple xs) _ := .tuple h1 h2 h3 h4
    obtain ⟨bs, lim, kids⟩ := ReprAllK.of_readsAll (prog := P) (w := w) h4 ok' (fun z m => nosys (by simpa [PyData.hasDict] using z) m) (fun t ht => Nat.le_trans (tupleText_mem_le ht) sz')
    have off : a ∉ bs := not_mem_of_deeper whole (by simp only [PyData.depth]; omega) lim
    simp only [PyData.depth] at hu
    simp only [PyData.shown] at q
    have ty : s.TypeIs (.ref a) "tuple" := ⟨_, h1, h2⟩
    refine repr_slot (by omega) ty F.slot_tuple_repr ?_
    refine (wpAny_callSpecialIfBound?_slotG (name := Str.ofString "__repr__") ty F.slot_tuple_repr (call_tuple_reprK h1 h2 h3 off kids fr (fun b _ => Clear.nil b) (show A.units + 1 + _ < cLine by omega) (fun _ _ e => e) (fun h' u tk kp => ?_) sz'))
    exact ⟨_, _, rfl, q h' u tk kp⟩
  | dict => simp [PyData.hasDict] at nod
end
section
variable {X : Cx}
theorem vals_one {x : V} {us : List Value} (r : Vals [x] us) : ∃ u, us = [u] ∧ RelV x u := by
  cases r with
  | cons h t => cases t; exact ⟨_, rfl, h⟩
def rRepr (K : PySem.W.Frag) : List V → Hp → VK → Prop := fun xs H Q => ∃ (v : V) (d : PyData), xs = [v] ∧ Dp K H v d ∧ d.showable = true ∧ d.hasDict = false ∧ d.depth ≤ 60 ∧ d.shown.length ≤ sizeLine ∧ Q (.str d.shown) H
theorem call_reprD {k : Nat} (fr : Free X.A) (room : Room k X.A) : CallR X (.builtin "repr") (rRepr X.K) := by
  intro pins st σ h xs us Z inv rel pre
  obtain ⟨v, d, rfl, dp, ok, nod, deep, sz, z⟩ := pre
  obtain ⟨u, rfl, rv⟩ := vals_one rel
  obtain ⟨as, rd⟩ := Dp.reads inv d v u dp rv
  refine repr_data rd ok nod sz fr (by have := room.un; omega) fun h' t tk kp => ?_
  exact ⟨.str d.shown, h, inv.kept kp, ⟨t, rfl⟩, z⟩
end
/-! ### the law's end -/
theorem law_G {P : Program} {w : World} {K : PySem.W.Frag} {mg bm : Str → Option Value} {k : Nat} {fa a : Addr} {fd : FuncData} {x : Str} {sp : Sp} {st : Shared} {us : List Value} {ns : List Int}
    (kin : K.In st.heap) (gl : st.heap.Ns mainGlobals mg) (bl : st.heap.Ns builtinsNs bm) (bb : ∀ y : Str, y ≠ "__name__" → bm y = bootBuiltins y) (nolim : st.heap.NoLimit) (nogen : st.gens = #[])
    (at_ : st.heap.get? a = some { cls := .type "list", data := .seq us.toArray }) (allInt : IntsAre us ns) (few : ns.length ≤ sizeLine) (room : Room k callerA)
    (F : ∀ base : Heap, K.In base → base.Ns mainGlobals mg → FnG P w K mg base CX0 k fa fd [x] sp) (bind : ∀ (s : Shared) (u : Value), BindsTo s fd ⟨[u], []⟩ [(x, u)])
    (pre : ∀ H : Hp, SqL K H a (ns.map V.int) → sp [.ref a] H (fun v _ => v = .bl true) fun _ _ _ => False) :
    codeAny (model P w) callerA (.call (.ref fa) ⟨[.ref a], []⟩) (fun r s2 => r = .ok (.ret (.bool true)) ∧ OldK st.heap s2.heap ∧ s2.os = st.os ∧ AllBare s2.gens) st := by
  have main : ∀ H : Hp, (∀ b, H b = none ∨ ∃ o ys, H b = some (.frz o (.lst ys))) → SqL K H a (ns.map V.int) → HOk P w H st.heap → (∀ b, H b ≠ none → b = a) → (H a ≠ none → K.lookup a = none) →
      codeAny (model P w) callerA (.call (.ref fa) ⟨[.ref a], []⟩) (fun r s2 => r = .ok (.ret (.bool true)) ∧ OldK st.heap s2.heap ∧ s2.os = st.os ∧ AllBare s2.gens) st := by
    intro H only sq hok isA noK
    have free_of : ∀ {b : Addr} {o : Obj}, st.heap.get? b = some o → (∀ ys m, o.data ≠ .seq ys m) → H b = none := by
      intro b o e nd
      cases q : H b with
      | none => rfl
      | some z =>
        have eb := isA b (by rw [q]; simp)
        rw [eb, at_] at e
        exact absurd (congrArg Obj.data (Option.some.inj e)).symm (nd _ _)
    have kb : K.In (hidT st.heap H) := by
      intro b o e
      refine hidT_get (kin b o e) ?_
      cases q : H b with
      | none => rfl
      | some z =>
        have eb := isA b (by rw [q]; simp)
        rw [eb] at e q
        rw [noK (by rw [q]; simp)] at e
        cases e
    have ns_of : ∀ {b : Addr} {m : Str → Option Value}, st.heap.Ns b m → (hidT st.heap H).Ns b m := by
      intro b m h
      obtain ⟨o, es, ep, e, d, r⟩ := h
      exact ⟨o, es, ep, hidT_get e (free_of e (fun ys n z => by rw [d] at z; cases z)), d, r⟩
    have hm : Mod K mg (hidT st.heap H) := ⟨kb, ns_of gl, ⟨bm, ns_of bl, bb⟩, by obtain ⟨mc, z1, z2⟩ := nolim; exact ⟨mc, ns_of z1, z2⟩⟩
    have env : Env0 P w K mg (hidT st.heap H) callerA [] st H := ⟨rfl, hm, fun b o e => of_hidT e, Nat.le_of_eq (hidT_size _ _), trivial, fun b z => (List.not_mem_nil z).elim, hok, .of_eq nogen⟩
    refine codeAny_mono ((F _ kb (ns_of gl)).go callerA rfl [] st H ⟨[.ref a], []⟩ [.ref a] [.ref a] _ _ room env (bind st (.ref a)) (.cons rfl .nil) (pre H sq)) fun res s2 z => ?_
    match res, z with
    | .error e, z => exact z.elim
    | .ok .next, z => exact z.elim
    | .ok .brk, z => exact z.elim
    | .ok .cont, z => exact z.elim
    | .ok (.ret u), z =>
      obtain ⟨v, H2, z1, z2, un, hok2, rel, rfl⟩ := z
      obtain rfl : u = Value.bool true := rel
      refine ⟨rfl, OldK.of_keep fun b o e => ?_, z1, z2⟩
      cases q : H b with
      | none => exact un.keep b o e q (fun y => List.not_mem_nil y) (fun y => List.not_mem_nil y)
      | some y =>
        rcases only b with y1 | ⟨o1, ys, y1⟩
        · rw [q] at y1; cases y1
        · have y2 := (hok b _ y1).1
          have y3 := (hok2 b _ (un.frzs b o1 _ y1)).1
          rw [e] at y2
          rw [Option.some.inj y2]
          exact y3
  have vals := vals_ints allInt
  have lens := allInt.length
  cases look : K.lookup a with
  | some o =>
    have e := kin a o look
    rw [at_] at e
    obtain rfl := Option.some.inj e
    exact main (fun _ => none) (fun _ => .inl rfl) (.inr ⟨_, us.toArray, _, look, rfl, rfl, rfl, by rw [List.size_toArray, lens]; exact few, by simpa using vals⟩) (fun _ _ z => nomatch z) (fun _ z => (z rfl).elim) (fun z => (z rfl).elim)
  | none =>
    refine main (upd (fun _ => none) a (.frz { cls := .type "list", data := .seq us.toArray } (.lst (ns.map V.int)))) (fun b => ?_) (.inl (.inr ⟨_, upd_same⟩)) (fun b y z => ?_) (fun b z => ?_) fun _ => look
    · by_cases eb : b = a
      · rw [eb, upd_same]; exact .inr ⟨_, _, rfl⟩
      · rw [upd_ne eb]; exact .inl rfl
    · by_cases eb : b = a
      · subst eb
        rw [upd_same] at z
        obtain rfl := Option.some.inj z
        exact ⟨at_, by rw [List.length_map]; exact few, us, _, vals, at_⟩
      · rw [upd_ne eb] at z; cases z
    · by_cases eb : b = a
      · exact eb
      · exact absurd (upd_ne eb) z
/-- the goal that the head leaves, from the law's own promise -/
theorem walkG {l : PySem.W.OpenLaw} {n k : Nat} {q : Program} {loose : List Str} {XP : (Str → Option Value) → Heap → Prop} {YP : World → Heap → Prop} {d : DefRec} {K : Params → PySem.W.Frag} {sp : World → Sp} {x : Str}
    (hn : l.most = some n) (n2 : n ≤ sizeLine) (nodef : d.params.defaults = []) (room : Room k callerA) (hY : ∀ (w : World) (h : Heap), YP w h → (K w.params).In h)
    (F : ∀ (w : World) (mg : Str → Option Value) (fa : Addr) (h : Heap), (K w.params).In h → h.Ns mainGlobals mg → mg d.name = some (.ref fa) →
      ∃ fd : FuncData, (∀ (s : Shared) (u : Value), BindsTo s fd ⟨[u], []⟩ [(x, u)]) ∧ ∀ base : Heap, (K w.params).In base → base.Ns mainGlobals mg → FnG l.prog w (K w.params) mg base CX0 k fa fd [x] (sp w))
    (pre : ∀ (w : World) (H : Hp) (a : Addr) (ns : List Int), ns.length ≤ n → SqL (K w.params) H a (ns.map V.int) → sp w [.ref a] H (fun v _ => v = .bl true) fun _ _ _ => False) :
    PySem.W.WalkO q loose XP YP l.row.toRowW d [] (fun f vs => PySem.call f vs) := by
  refine Att.attach_call hn nodef fun w s0 st mg bm fa o pm cd doc a us ns G Y ho hd hcd hmg hobj allInt size nogen => ?_
  obtain ⟨fd, bind, hF⟩ := F w mg fa _ (hY w _ Y) G.T.g hmg
  exact law_G (hY w _ Y) G.T.g G.T.b G.T.builtins G.T.nolimit nogen hobj allInt (Nat.le_trans size n2) room hF bind fun H sq => pre w H a ns size sq
end KG

/-! KO: own objects: methods called by keywords, own ==, != by own ==, str by own __str__. -/
namespace KO
open PySem PySem.Spec PyProof.Rows L2 KB
section
variable {X : Cx}
/-- a def run in another Around, nothing raised out of it -/
theorem run0 {A' : Around} {k : Nat} {f : Addr} {fd : FuncData} {ps : List Str} {sp : Sp} {pins : List (Addr × Obj)} {σ : L2.St} {h : Hp} {st : Shared} {Z : VK} {ws : List Value} {xs : List V} {E' : Value → Shared → Prop} (F : FnOk X.prog X.w X.K X.mg X.base CX0 k f fd ps sp) (room : Room k A')
    (env : Env0 X.prog X.w X.K X.mg X.base A' X.stack st h) (bind : Binds X.K fd ps []) (inv : Inv X pins σ h st) (rel : Vals xs ws) (pre : sp xs h Z E0) : wpAny (model X.prog X.w) A' (call (.ref f) ws) (EP X pins σ Z) E' st := by
  have size : (ws ++ []).length = ps.length := by rw [List.append_nil, ← rel.length]; exact F.len _ _ _ _ pre
  have bd := bind st ws inv.kIn size
  rw [List.append_nil] at bd
  refine wpAny_call (codeAny_mono (F.run A' X.stack st h ⟨ws, []⟩ _ _ Z E0 room env bd rel pre) fun res st2 z => ?_)
  match res, z with
  | .error e, z => exact z.elim
  | .ok (.ret u), z => exact inv.after z
  | .ok .next, z => exact z.elim
  | .ok .brk, z => exact z.elim
  | .ok .cont, z => exact z.elim
theorem inst_of {pins : List (Addr × Obj)} {σ : L2.St} {h : Hp} {st : Shared} {a C dx : Addr} {fs : List (Str × V)} (inv : Inv X pins σ h st) (e : h a = some (.ins C dx fs)) : ∃ od, PySem.W.InstAt st.heap a (PySem.W.instObj C dx) C (some od) := by
  obtain ⟨mA, O, _⟩ := ins_get inv.hok e
  obtain ⟨od, J, _⟩ := O.look
  exact ⟨od, J⟩
/-! ### own == -/
def rEqOwn (K : PySem.W.Frag) (C : Addr) (sp : Sp) : R2 := fun x y H Q => ∃ a dx fs b C' dy gs, x = .ref a ∧ y = .ref b ∧ H a = some (.ins C dx fs) ∧ H b = some (.ins C' dy gs) ∧ PySem.W.notFirst K C (.ref C') = true ∧ sp [x, y] H Q E0
theorem op_eqOwn {C g : Addr} {fd : FuncData} {ps : List Str} {sp : Sp} {n : Nat} (hs : PySem.W.findIn X.K (.ref C) "__eq__" = some (some (.ref g))) (hf : PySem.W.isFn X.K (.ref g) = true) (F : FnOk X.prog X.w X.K X.mg X.base CX0 n g fd ps sp) (bind : Binds X.K fd ps [])
    (room : Room n X.A) : OpR X (compareOp .Eq) (rEqOwn X.K C sp) := by
  intro pins st σ h x y v u Z inv rx ry pre
  obtain ⟨a, dx, fs, b, C', dy, gs, rfl, rfl, ha, hb, nf, z⟩ := pre
  obtain rfl : v = Value.ref a := rx
  obtain rfl : u = Value.ref b := ry
  obtain ⟨od, J⟩ := inst_of inv ha
  obtain ⟨od', J'⟩ := inst_of inv hb
  obtain ⟨m, hF⟩ := inv.fr
  rw [show compareOp .Eq (.ref a) (.ref b) = richCompare .Eq (.ref a) (.ref b) from rfl]
  refine PySem.W.cmp_K (op := .Eq) (tb := .ref C') room.units0 hF inv.ok.mod.kin J J'.type nf hs hf ?_
  refine wpAny_mono (run0 (E' := X.xe) (xs := [.ref a, .ref b]) F room inv.env0 bind inv (.cons rfl (.cons rfl .nil)) z) (fun w s2 r => ?_) fun _ _ z => z
  obtain ⟨z', h2, inv2, rz, qz⟩ := r
  exact SlX.cmpback rz ⟨z', h2, inv2, rz, qz⟩
/-! ### != by own == -/
/-- what the text's class must be for it -/
structure NeCls (K : PySem.W.Frag) (C g : Addr) : Prop where
  ex : ∃ (nm q : Str) (N : Addr) (bs : List Value) (hd : Bool) (sn : List Str) (sub : List Value) (ab : Bool) (col : Option Bool) (dd : Option Addr) (k0 k1 k2 k3 k5 : Option Value) (nid : String),
    K.lookup C = some (excClassObj nm q C N bs [.type "object"] hd sn sub ab col dd k0 k1 k2 k3 k5 nid) ∧ PySem.W.nsOkIn K N = true ∧ PySem.W.nsIn K N "__eq__" = some (some (.ref g)) ∧ PySem.W.nsIn K N "__ne__" = some none
  fn : ∃ o : Obj, K.lookup g = some o ∧ o.cls = .type "function"
theorem ns_val {K : PySem.W.Frag} {h : Heap} {N : Addr} {m : Str → Option Value} {x : Str} {v : Value} (kin : K.In h) (G : h.Ns N m) (e : PySem.W.nsIn K N x = some (some v)) : m x = some v := by
  obtain ⟨o, es, ep, e1, e2, _, e3⟩ := G
  unfold PySem.W.nsIn at e
  split at e
  · rename_i q
    have z := kin _ _ q
    rw [e1] at z
    cases z
    cases e2
    split at e
    · rename_i w
      rw [← e3]
      unfold nsFind findBy
      rw [← Array.find?_toList, w]
      simpa using e
    · split at e <;> cases e
  · cases e
theorem NeCls.at {K : PySem.W.Frag} {C g a dx : Addr} {h : Heap} (c : NeCls K C g) (kin : K.In h) (ha : h.get? a = some (PySem.W.instObj C dx)) : h.OwnEqNoNe a C g "object" [.type "object"] := by
  obtain ⟨nm, q, N, bs, hd, sn, sub, ab, col, dd, k0, k1, k2, k3, k5, nid, e1, e2, e3, e4⟩ := c.ex
  obtain ⟨o, e5, e6⟩ := c.fn
  have hN : h.Ns N (h.nsMap N) := .of_isNs (PySem.W.isNs_of_in kin e2)
  exact ⟨_, o, nm, q, N, bs, hd, sn, sub, ab, col, dd, k0, k1, k2, k3, k5, nid, h.nsMap N, _, ha, rfl, kin _ _ e1, hN, ns_val kin hN e3, kin _ _ e5, e6, F.cmp_object.mro, F.cmp_object.eq.lookup, PySem.W.ns_none_of kin hN e4⟩
def rNeOwn (C : Addr) (sp : Sp) : R2 := fun x y H Q => ∃ a dx fs b dy gs, x = .ref a ∧ y = .ref b ∧ H a = some (.ins C dx fs) ∧ H b = some (.ins C dy gs) ∧ sp [x, y] H (fun v H' => ∃ c, v = .bl c ∧ Q (.bl (!c)) H') E0
theorem op_neOwn {C g : Addr} {fd : FuncData} {ps : List Str} {sp : Sp} {n : Nat} (c : NeCls X.K C g) (F : FnOk X.prog X.w X.K X.mg X.base CX0 n g fd ps sp) (bind : Binds X.K fd ps []) (room : Room (n + 1) X.A) : OpR X (compareOp .NotEq) (rNeOwn C sp) := by
  intro pins st σ h x y v u Z inv rx ry pre
  obtain ⟨a, dx, fs, b, dy, gs, rfl, rfl, ha, hb, z⟩ := pre
  obtain rfl : v = Value.ref a := rx
  obtain rfl : u = Value.ref b := ry
  obtain ⟨_, _, _, ga, _⟩ := inv.hok a _ ha
  obtain ⟨_, _, _, gb, _⟩ := inv.hok b _ hb
  have un := room.un
  refine compareOp_ne_ownEq (h := st.heap) (g := st.gens) (d := st.drawn) (t := st.toks) (os := st.os) PySem.F.cmp_object (c.at inv.kIn ga) gb rfl (by omega) ?_
  refine wpAny_mono (run0 (E' := X.xe) (xs := [.ref a, .ref b]) F room.in1 inv.env0.in1 bind inv (.cons rfl (.cons rfl .nil)) z) (fun w s2 r => ?_) fun _ _ z => z
  obtain ⟨v', h2, inv2, rz, cc, rfl, q2⟩ := r
  obtain rfl : w = Value.bool cc := rz
  exact ⟨cc, rfl, ⟨.bl (!cc), h2, inv2, rfl, q2⟩⟩
/-! ### str(o) by own __str__ -/
def rStrOwn (C : Addr) (sp : Sp) : List V → Hp → VK → Prop := fun xs H Q => ∃ a dx fs, xs = [.ref a] ∧ H a = some (.ins C dx fs) ∧ sp [.ref a] H (fun v H' => ∃ t, v = .str t ∧ Q (.str t) H') E0
theorem call_strOwn {C g : Addr} {fd : FuncData} {ps : List Str} {sp : Sp} {n : Nat} (hs : PySem.W.findIn X.K (.ref C) "__str__" = some (some (.ref g))) (hf : PySem.W.isFn X.K (.ref g) = true) (F : FnOk X.prog X.w X.K X.mg X.base CX0 n g fd ps sp) (bind : Binds X.K fd ps [])
    (room : Room (n + 2) X.A) : CallR X (.type "str") (rStrOwn C sp) := by
  intro pins st σ h xs us Z inv rel pre
  obtain ⟨a, dx, fs, rfl, ha, z⟩ := pre
  obtain ⟨u, rfl, ru⟩ : ∃ u, us = [u] ∧ RelV (.ref a) u := by
    cases rel with
    | cons e t => cases t; exact ⟨_, rfl, e⟩
  obtain rfl : u = Value.ref a := ru
  obtain ⟨od, J⟩ := inst_of inv ha
  have un := room.un
  refine PySem.W.kso_call (show X.A.units + 1 + 1 < cLine by omega) inv.kIn J hs hf ?_
  refine wpAny_mono (run0 (E' := X.xe) (xs := [.ref a]) F room.in1.in1 inv.env0.in1.in1 bind inv (.cons rfl .nil) z) (fun w s2 r => ?_) fun _ _ z => z
  obtain ⟨v', h2, inv2, rz, t, rfl, q2⟩ := r
  obtain ⟨tk, rfl⟩ : ∃ tk, w = Value.str t tk := rz
  exact ⟨.str t, h2, inv2, ⟨tk, rfl⟩, q2⟩
/-! ### o.m(.., k = v, ..) -/
structure CalleeMK (P : Program) (w : World) (K : PySem.W.Frag) (mg : Str → Option Value) (base : Heap) (k : Nat) (C : Addr) (m : Str) (ps : List Str) (sp : Sp) (n : Nat) (ks : List Str) (gV : List V → List V → List V) : Prop where
  ex : ∃ (f : Addr) (fd : FuncData) (g : List Value → List Value → List Value), FnOk P w K mg base CX0 k f fd ps sp ∧ Meth K C m f ∧ KBn K fd ps (n + 1) ks g gV
  cl : Cls K C
def tMethK0 (C : Addr) (m : Str) (n : Nat) (sp : Sp) (gV : List V → List V → List V) (ta : TE) (tk : TA) : TE := fun σ H Q => ta σ H fun x H1 => ∃ a dx fs, x = .ref a ∧ H1 a = some (.ins C dx fs) ∧ fs.lookup m = none ∧ tk σ H1 fun zs H2 => zs.length = n ∧ sp (gV [.ref a] zs) H2 Q E0
theorem pe_methK0 {pl : Sem Bool} {k : Nat} {C : Addr} {m : Str} {ps ks : List Str} {sp : Sp} {gV : List V → List V → List V} {o : Expr} {kws : List Keyword} {apos pos : Pos} {ta : TE} {tk : TA} (c : CalleeMK X.prog X.w X.K X.mg X.base k C m ps sp 0 ks gV) (ho : PE X o ta) (room : Room k X.A) (hkw : PK X kws tk)
    (d1 : (backToKw pos (keywordEach kws X.env)).all (·.1.isSome) = true := by rfl) (d2 : (backToKw pos (keywordEach kws X.env)).filterMap (·.1) = ks := by rfl) (d3 : ((backTo pos (starEach [] X.env)).any (·.1) || (backToKw pos (keywordEach kws X.env)).any (·.1.isNone)) = false := by rfl)
    (d4 : eval (.Call (.Attribute o m apos) [] kws pos) X.env = (do
      let ov ← eval o X.env
      standAt apos.atName
      let (f, first) ← holding [ov] (getMethod ov m pl)
      callWith pos f first (backTo pos (starEach [] X.env)) (backToKw pos (keywordEach kws X.env))) := by rfl) :
    PE X (.Call (.Attribute o m apos) [] kws pos) (tMethK0 C m ks.length sp gV ta tk) := by
  obtain ⟨f, fd, g, F, hm, hb⟩ := c.ex
  refine ⟨fun pins st σ h Z inv pre => PySem.W.methodCall_KW (pl := pl) (thn (ho.run pins st σ h _ inv pre) fun u s1 r => ?_) d4⟩
  obtain ⟨x, h1, inv1, rx, a, dx, fs, rfl, ea, no, z⟩ := r
  obtain rfl : u = Value.ref a := rx
  refine getmeth_ok inv1 ea c.cl hm no (PySem.W.callWith_KW0 (first := [.ref a]) (h₀ := X.base) inv.ok.mod.kin hm.kp d1 (thn (hkw.run pos pins s1 σ h1 _ inv1 z) fun ws s2 r => ?_) d3)
  obtain ⟨zs, h2, inv2, rel, l2, z2⟩ := r
  refine ⟨inv2.kIn, ?_⟩
  rw [d2]
  exact run_fnN (us := [.ref a]) (vs := [.ref a]) F room hb pass0 inv2 (.cons rfl .nil) rel rfl l2 z2
theorem r_methK0 {σ : L2.St} {H : Hp} {Q : VK} {C : Addr} {m : Str} {n : Nat} {sp : Sp} {gV : List V → List V → List V} {ta : TE} {tk : TA}
    (q : ta σ H fun x H1 => ∃ a dx fs, x = .ref a ∧ H1 a = some (.ins C dx fs) ∧ fs.lookup m = none ∧ tk σ H1 fun zs H2 => zs.length = n ∧ sp (gV [.ref a] zs) H2 Q E0) : tMethK0 C m n sp gV ta tk σ H Q := q
/-! ### an item of a dict of the text -/
theorem ix_kd {d : Addr} {es : Array DictEntry} {n : Nat} (D : KDict X.K X.w d es n) : IxR X (fun x y H Q => ∃ (z : Str) (u0 : Value) (v0 : V), x = .ref d ∧ y = .str z ∧ PySem.W.nsIn X.K d z = some (some u0) ∧ RelV v0 u0 ∧ Q v0 H) := by
  intro value slice pins st σ h x y v u Z inv rx ry pre hs
  have pre' := pre
  obtain ⟨z, u0, v0, rfl, rfl, e, r, q⟩ := pre'
  obtain rfl : v = Value.ref d := rx
  have ty : st.TypeIs (.ref d) "dict" := ⟨_, inv.kIn _ _ D.at_, rfl⟩
  exact tail_any ty PySem.F.slot_dict_getitem.lookup (op_item_kd D pins st σ h (.ref d) (.str z) _ u Z inv rfl ry pre) hs
theorem r_joined {σ : L2.St} {H : Hp} {te : TE} {ts : List TE} {acc : Str} {QJ : Str → Hp → Prop} (q : te σ H fun x H1 => ∃ y : Str, x = .str y ∧ (acc ++ y).length ≤ sizeLine ∧ tJs ts (acc ++ y) σ H1 QJ) : tJs (te :: ts) acc σ H QJ := q
theorem r_joined0 {σ : L2.St} {H : Hp} {acc : Str} {QJ : Str → Hp → Prop} (q : QJ acc H) : tJs [] acc σ H QJ := q
theorem r_fmt {σ : L2.St} {H : Hp} {te : TE} {Q : VK} (q : te σ H fun x H1 => (∃ y : Str, x = .str y ∧ y.length ≤ sizeLine ∧ Q (.str y) H1) ∨ ∃ i : Int, x = .int i ∧ i.natAbs.log2 < 1920 ∧ Q (.str (toString i)) H1) : tFmt te σ H Q := q
theorem r_fmtS {H : Hp} {Q : VK} {z : Str} {B : Prop} (h : z.length ≤ sizeLine) (q : Q (.str z) H) : (∃ y : Str, V.str z = .str y ∧ y.length ≤ sizeLine ∧ Q (.str y) H) ∨ B := .inl ⟨z, rfl, h, q⟩
/-- C(k = v, ..) -/
structure CalleeIK (P : Program) (w : World) (K : PySem.W.Frag) (mg : Str → Option Value) (base : Heap) (CX : CXT) (k : Nat) (C : Addr) (x : Str) (ps : List Str) (sp : Sp) (ks : List Str) (gV : List V → List V → List V) : Prop where
  ex : ∃ (f : Addr) (fd : FuncData) (g : List Value → List Value → List Value), FnOk P w K mg base CX k f fd ps sp ∧ Mk K C f ∧ mg x = some (.ref C) ∧ KBn K fd ps 1 ks g gV
theorem pe_makeKC {CX : CXT} {k : Nat} {C : Addr} {x : Str} {ps ks : List Str} {sp : Sp} {gV : List V → List V → List V} {E : XK} {kws : List Keyword} {p pos : Pos} {tk : TA} (c : CalleeIK X.prog X.w X.K X.mg X.base CX k C x ps sp ks gV) (room : Room (k + 1) X.A) (gl : Gl X x) (pass : Passes CX X E) (hkw : PK X kws tk)
    (d1 : (backToKw pos (keywordEach kws X.env)).all (·.1.isSome) = true := by rfl) (d2 : (backToKw pos (keywordEach kws X.env)).filterMap (·.1) = ks := by rfl) (d3 : (x == ("__debug__" : Str)) = false := by decide)
    (d4 : ((backTo pos (starEach [] X.env)).any (·.1) || (backToKw pos (keywordEach kws X.env)).any (·.1.isNone)) = false := by rfl) :
    PE X (.Call (.Name x p) [] kws pos) (tMakeK C 0 ks.length sp gV E tNil tk) := by
  obtain ⟨f, fd, g, F, M, hm, hb⟩ := c.ex
  exact pe_makeK0 M F room gl hm hb pass hkw d1 d2 d3 d4
theorem r_makeK {σ : L2.St} {H : Hp} {Q : VK} {C : Addr} {n m : Nat} {sp : Sp} {gV : List V → List V → List V} {E : XK} {t tk : TA} (q : t σ H fun vs H1 => tk σ H1 fun zs H2 => vs.length = n ∧ zs.length = m ∧ ∀ x dx, H2 x = none → H2 dx = none → dx ≠ x →
    sp (gV (.ref x :: vs) zs) (upd (upd H2 dx (.own x)) x (.ins C dx [])) (fun v H3 => v = .non ∧ Q (.ref x) H3) E) : tMakeK C n m sp gV E t tk σ H Q := q
/-- a special method of the text's class; the class for != -/
structure OwnM (P : Program) (w : World) (K : PySem.W.Frag) (mg : Str → Option Value) (base : Heap) (k : Nat) (C : Addr) (m : Str) (ps : List Str) (sp : Sp) : Prop where
  ex : ∃ (g : Addr) (fd : FuncData), PySem.W.findIn K (.ref C) m = some (some (.ref g)) ∧ PySem.W.isFn K (.ref g) = true ∧ FnOk P w K mg base CX0 k g fd ps sp ∧ Binds K fd ps []
structure OwnNe (P : Program) (w : World) (K : PySem.W.Frag) (mg : Str → Option Value) (base : Heap) (k : Nat) (C : Addr) (ps : List Str) (sp : Sp) : Prop where
  ex : ∃ (g : Addr) (fd : FuncData), NeCls K C g ∧ FnOk P w K mg base CX0 k g fd ps sp ∧ Binds K fd ps []
theorem call_strO {C : Addr} {ps : List Str} {sp : Sp} {n : Nat} (c : OwnM X.prog X.w X.K X.mg X.base n C "__str__" ps sp) (room : Room (n + 2) X.A) : CallR X (.type "str") (rStrOwn C sp) := by
  obtain ⟨g, fd, h1, h2, F, b⟩ := c.ex
  exact call_strOwn h1 h2 F b room
theorem op_eqO {C : Addr} {ps : List Str} {sp : Sp} {n : Nat} (c : OwnM X.prog X.w X.K X.mg X.base n C "__eq__" ps sp) (room : Room n X.A) : OpR X (compareOp .Eq) (rEqOwn X.K C sp) := by
  obtain ⟨g, fd, h1, h2, F, b⟩ := c.ex
  exact op_eqOwn h1 h2 F b room
theorem op_neO {C : Addr} {ps : List Str} {sp : Sp} {n : Nat} (c : OwnNe X.prog X.w X.K X.mg X.base n C ps sp) (room : Room (n + 1) X.A) : OpR X (compareOp .NotEq) (rNeOwn C sp) := by
  obtain ⟨g, fd, h1, F, b⟩ := c.ex
  exact op_neOwn h1 F b room
end
end KO

/-! KX: own error classes over ValueError whose __init__ says super().__init__(text) and sets one field. -/
namespace KX
open PySem PySem.Spec PyProof.Rows L2 KB
/-- the frame of such an __init__ -/
def supCx (CXx : CXT) (P : Program) (w : World) (K : PySem.W.Frag) (mg : Str → Option Value) (base : Heap) (N : List Str) (ql : Str) (sc : Scope) (f cda cc : Addr) (A : Around) (out : List Env) (st : Shared) (h : Hp) (W : XK) : Cx where
  prog := P
  w := w
  K := K
  mg := mg
  base := base
  A := A.deeper (PySem.W.ksEnv ql sc st.heap.objs.size f (.ref cda) cc)
  N := N
  s_0 := st
  H_0 := h
  env := PySem.W.ksEnv ql sc st.heap.objs.size f (.ref cda) cc
  outer := out
  stack := PySem.W.ksEnv ql sc st.heap.objs.size f (.ref cda) cc :: out
  ex := []
  fn := fun _ => false
  calm := true
  pn := []
  xe := fun e s' => wpAny (model P w) (A.deeper (PySem.W.ksEnv ql sc st.heap.objs.size f (.ref cda) cc)) (leaving (PySem.W.ksEnv ql sc st.heap.objs.size f (.ref cda) cc) e) (fun _ s'' => CXx out h st W e s'') (fun e' s'' => CXx out h st W e' s'') s'
theorem cls_only {y : Str} {cc c : Addr} (e : ([(("__class__" : Str), cc)] : List (Str × Addr)).lookup y = some c) : y = "__class__" ∧ c = cc := by
  simp only [List.lookup] at e
  split at e
  · rename_i z
    exact ⟨by simpa using z, (Option.some.inj e).symm⟩
  · cases e
theorem inv_sup {CXx : CXT} {P : Program} {w : World} {K : PySem.W.Frag} {mg : Str → Option Value} {base : Heap} {vn ql : Str} {sc : Scope} {f cda cc : Addr} {A : Around} {out : List Env} {st : Shared} {h : Hp} {W : XK} {u1 u2 : Value} {v1 v2 : V} {h1 : Heap} {tk : Nat} {cl : Value} {cld : Option Addr} {csl : Array (Option Value)} {cv : Option Value}
    (e0 : Env0 P w K mg base A out st h) (hd : A.handled = none) (kind : sc.kind = .function) (nocell : ∀ y ∈ sc.names, y.2 ≠ .cell) (nofree : ∀ y, sc.names.lookup y = some .free → y = "__class__") (l1 : sc.names.lookup ("self" : Str) = some .local) (l2 : sc.names.lookup vn = some .local) (nv : vn ≠ "self")
    (hc : K.lookup cc = some ⟨cl, cld, .cell cv, csl⟩) (hns : h1.Ns st.heap.objs.size (fun y => ([(("self" : Str), u1), (vn, u2)] : List (Str × Value)).reverse.lookup y)) (kp : ∀ b o, st.heap.get? b = some o → h1.get? b = some o) (r1 : RelV v1 u1) (r2 : RelV v2 u2) :
    Inv (supCx CXx P w K mg base ["self", vn] ql sc f cda cc A out st h W) [] [some v1, some v2] h { st with heap := h1, toks := tk } := by
  have noA : ∀ b : Addr, b ∉ (supCx CXx P w K mg base ["self", vn] ql sc f cda cc A out st h W).ex := fun b z => absurd (show b ∈ ([] : List Addr) from z) (by simp)
  have ccb := e0.bs _ _ (e0.mod.kin _ _ hc)
  refine ⟨⟨e0.mod, kind, rfl, rfl, Nat.le_refl _, fun y z c a b => (cls_only a).1.trans (cls_only b).1.symm, fun y hy => ?_, fun y c z _ => ?_, fun _ => hd, Around.frames_deeper e0.frames, .inr ⟨rfl, rfl⟩, fun b z => absurd z (noA b), e0.bs, e0.bsz, fun b _ _ => noA b, fun b z => absurd z (noA b), e0.funs, e0.frf⟩,
    rfl, e0.bare, Un.kept kp, ⟨_, hns, fun i y v a b c => ?_⟩, fun y c e => ?_, e0.hok.fresh (Nat.le_refl _), fun y c e => ?_, fun p hp => absurd (show p ∈ ([] : List (Addr × Obj)) from hp) (by simp), e0.hok.kept kp, rfl⟩
  · have hy : sc.names.lookup y = some .cell ∨ sc.names.lookup y = some .free := hy
    rcases hy with hy | hy
    · exact absurd rfl (nocell _ (PySem.mem_of_lookup hy))
    · rw [nofree y hy]
      exact ⟨cc, rfl⟩
  · have z : false = true := z
    cases z
  · match i, a, b with
    | 0, a, b =>
      obtain rfl : ("self" : Str) = y := Option.some.inj a
      obtain rfl : v1 = v := Option.some.inj (Option.some.inj b)
      refine ⟨u1, r1, .inl ⟨l1, ?_⟩⟩
      have nv' : ¬ (("self" : Str) == vn) = true := by simpa using fun z : ("self" : Str) = vn => nv z.symm
      simp [List.lookup, nv']
    | 1, a, b =>
      obtain rfl : vn = y := Option.some.inj a
      obtain rfl : v2 = v := Option.some.inj (Option.some.inj b)
      exact ⟨u2, r2, .inl ⟨l2, by simp [List.lookup]⟩⟩
    | i + 2, a, b => cases a
  · obtain ⟨rfl, rfl⟩ := cls_only e
    exact ⟨cv, _, kp _ _ ccb.1, rfl⟩
  · obtain ⟨rfl, rfl⟩ := cls_only e
    exact ccb.2
section
variable {prog : Program} {w : World} {A : Around} {E : Value → Shared → Prop} {h : Heap} {g : Array GenState} {d : Drawn} {t : Nat} {os : OsState}
variable {nm q : Str} {C N : Addr} {bs bm : List Value} {hdct : Bool} {sn : List Str} {sub : List Value} {ab : Bool} {col : Option Bool} {dd : Option Addr} {k0 k1 k2 k3 k5 : Option Value}
theorem call_mw {u e t0 : Addr} {rest : List Value} {Q : Value → Shared → Prop}
    (hC : h.get? C = some (excClassObj nm q C N bs bm hdct sn sub ab col dd k0 k1 k2 k3 k5 "ValueError.__new__")) (he : h.get? e = some (HandSPX.excO C t0)) (hu : h.get? u = some (PySem.W.kxs_mw "ValueError.__init__" e)) (hrest : rest.length ≤ sizeLine)
    (hq : ∀ h' t1, (∀ b o, b ≠ e → h.get? b = some o → h'.get? b = some o) → h'.get? e = some (HandSPX.excO C t1) → Q .none ⟨h', g, d, t, os⟩) :
    wpAny (model prog w) A (call (.ref u) rest) Q E ⟨h, g, d, t, os⟩ := by
  refine (wpAny_call (codeAny_of_tree ?_)); show wpAny _ A.in1 (callAny (.ref u) ⟨rest, []⟩) _ _ _; simp only [callAny]
  refine (wpAny_bind (wpAny_load hu ?_))
  simp only [PySem.W.kxs_mw, show (Value.type "method-wrapper" == Value.type "method" || Value.type "method-wrapper" == Value.type "builtin_function_or_method" || Value.type "method-wrapper" == Value.type "method-wrapper") = true by decide, if_true]
  refine (W.KFB.if_so (by decide) ?_)
  refine (wpAny_bind (ESX.check_bound F.excBase_ValueError hC he rfl ?_))
  refine (wpAny_bind (wpAny_pure (wpAny_pure ?_)))
  refine (⟨Code.quiet_builtin _ (by decide +kernel), codeAny_builtin F.excBase_ValueError.initEntry ?_⟩)
  rw [Around.under_plainId F.excBase_ValueError.init.plain _]; wp_walk
  refine hq _ h.objs.size (fun b o n e1 => ?_) ?_
  · exact (Heap.get?_update_other _ _ (Ne.symm n)).trans (Heap.get?_push_of_some _ e1)
  · exact Heap.get?_update_self _ (Heap.get?_push_of_some _ he) rfl
end
/-- what the text says of such an __init__ of the class at C -/
structure SupFn (K : PySem.W.Frag) (P : Program) (f : Addr) (fd : FuncData) (C : Addr) (vn fld : Str) : Prop where
  ex : ∃ (ql : Str) (pr : Arguments) (sc : Scope) (dV kV doc pm ct oc ccl cl : Value) (an od cdd cld : Option Addr) (osl ccs csl : Array (Option Value)) (cda cc : Addr) (vs : Array Value) (file : Str) (tf : Tok) (p0 p1 p2 p3 p4 p5 q1 q2 q3 q4 : Pos) (msg : Str) (j : Nat) (ar : Arg) (pl : Sem Bool),
    fd = PySem.W.ksFn "__init__" ql pr [.Expr (.Call (.Attribute (.Call (.Name "super" p0) [] [] p1) "__init__" p2) [.Constant (.str msg) j p3] [] p4) p5, .Assign [.Attribute (.Name "self" q1) fld q2] (.Name vn q3) q4] sc dV kV doc pm an (.ref cda) ct cc ∧
    K.lookup f = some ⟨oc, od, .func fd, osl⟩ ∧ PySem.W.codeIn K (.ref cda) ql = true ∧ K.lookup cda = some ⟨ccl, cdd, .fields vs, ccs⟩ ∧ vs[2]? = some (.str file tf) ∧ ((P.main.file : Str) == file) = true ∧
    K.lookup cc = some ⟨cl, cld, .cell (some (.ref C)), csl⟩ ∧ (pr.posonlyargs ++ pr.args).head? = some ar ∧ ar.arg = "self" ∧
    sc.kind = .function ∧ sc.isCoroutine = false ∧ sc.isGenerator = false ∧ (∀ y ∈ sc.names, y.2 ≠ .cell) ∧ (∀ y, sc.names.lookup y = some .free → y = "__class__") ∧ sc.names.lookup ("super" : Str) = some .globalImplicit ∧ sc.names.lookup ("__class__" : Str) = some .free ∧
    sc.names.lookup ("self" : Str) = some .local ∧ sc.names.lookup vn = some .local ∧
    (∀ en : Env, eval (.Call (.Attribute (.Call (.Name "super" p0) [] [] p1) "__init__" p2) [.Constant (.str msg) j p3] [] p4) en = (do
      let ov ← attributeBase (.Call (.Name "super" p0) [] [] p1) "__init__" en (eval (.Call (.Name "super" p0) [] [] p1) en)
      standAt p2.atName
      let (g, first) ← holding [ov] (getMethod ov "__init__" pl)
      callWith p4 g first (backTo p4 (starEach [.Constant (.str msg) j p3] en)) []))
  top : (P.main.scope.names.lookup ("super" : Str)).isSome = false
  nv : vn ≠ "self" ∧ (vn == ("__debug__" : Str)) = false ∧ (vn == ("__classdict__" : Str)) = false
  opq : PySem.W.nsIn K cStatics "thirdparty.any" = some none
  sub : PySem.W.mroIn K C (.ref C) = some true
  ve : PySem.W.mroIn K C (.type "ValueError") = some true
  sup : PySem.W.ks_superIn K C C "__init__" = some (some (.builtin "ValueError.__init__"))
  nof : PySem.W.findIn K (.ref C) fld = some none
def spXI (C : Addr) (fld : Str) : Sp := fun vs H Q _ => ∃ (a : Addr) (v : V), vs = [.ref a, v] ∧ H a = some (exo a C none) ∧ ∀ dx, H dx = none → dx ≠ a → Q .non (upd (upd H dx (exd dx [(fld, v)])) a (exo a C (some dx)))
theorem sup_ok {P : Program} {w : World} {K : PySem.W.Frag} {mg : Str → Option Value} {base : Heap} {k : Nat} {f C : Addr} {fd : FuncData} {vn fld : Str} (S : SupFn K P f fd C vn fld) (T : OexC K C) (hm : mg "super" = none) (hboot : bootBuiltins "super" = some (.type "super")) : FnOk P w K mg base CX0 (k + 1) f fd ["self", vn] (spXI C fld) := by
  refine ⟨fun xs h Z W z => ?_, fun A out st h ar0 ws xs Z W room env bind vals pre => ?_⟩
  · obtain ⟨a, v, rfl, _⟩ := z
    rfl
  obtain ⟨a, v, rfl, ha, q⟩ := pre
  obtain ⟨u1, u2, rfl, r1, r2⟩ := vals2 vals
  obtain ⟨ql, pr, sc, dV, kV, doc, pm, ct, oc, ccl, cl, an, od, cdd, cld, osl, ccs, csl, cda, cc, vs, file, tf, p0, p1, p2, p3, p4, p5, q1, q2, q3, q4, msg, j, ar, pl, rfl, lf, cdf, lcd, hvs, hfile, lcc, hp, har, kind, nco, ngen, nocell, nofree, ks, kc, kself, kvn, hev⟩ := S.ex
  have kin : K.In st.heap := env.mod.kin.keeps fun b o e => (env.bs b o e).1
  have nolim : st.heap.NoLimit := env.mod.nolimit.keeps fun b o e => (env.bs b o e).1
  refine ks_codeAny_call_defAt (binds := [("self", u1), (vn, u2)]) room.depth (kin _ _ lf) rfl nolim (PySem.W.codeRec_of kin cdf) rfl bind nocell (fun y hy => ?_) (fun h1 hns kp => ?_) nco ngen kind
  · simp only [List.mem_cons, List.not_mem_nil, or_false] at hy
    rcases hy with rfl | rfl
    · exact kself
    · exact kvn
  obtain rfl : u1 = Value.ref a := r1
  have I : Inv (supCx CX0 P w K mg base ["self", vn] ql sc f cda cc A out st h W) [] [some (.ref a), some v] h { st with heap := h1, toks := st.toks + 2 } := inv_sup env room.hd kind nocell nofree kself kvn S.nv.1 lcc hns kp rfl r2
  have hi : interactive (PySem.W.ksEnv ql sc st.heap.objs.size f (.ref cda) cc) = false := by
    unfold interactive
    simp [kind]
  refine ks_wpAt_execs_cons (ks_wpAt_Expr_any (env := PySem.W.ksEnv ql sc st.heap.objs.size f (.ref cda) cc) ?_ hi)
  refine ks_wpAt_MethodCall (pl := pl) (env := PySem.W.ksEnv ql sc st.heap.objs.size f (.ref cda) cc) ?_ (hev _)
  have bk := I.bk
  have kin1 : K.In h1 := I.kIn
  obtain ⟨t1, ga⟩ := exo_at I.hok ha
  obtain ⟨nm, qn, N, bs, bm, sn, sub, ab, col, dd, k0, k1, k2, k3, k5, hC, hbm⟩ := T.cls
  have hcl : PySem.W.clsIn K C = some { name := nm, bases := bs, mro := .ref C :: bm, ns := N, qualname := qn, hasDict := true, slotNames := sn, subclasses := sub, abstract := ab, collection := col, hasDel := false } := by unfold PySem.W.clsIn; rw [hC] <;> rfl
  obtain ⟨mb, b1, b2⟩ := env.mod.blt
  have kb : ∀ b o, base.get? b = some o → h1.get? b = some o := fun b o e => kp b o (env.bs b o e).1
  refine ks_wpAt_super_base (env := PySem.W.ksEnv ql sc st.heap.objs.size f (.ref cda) cc) ks kc (by decide) rfl (kin1 _ _ lf) rfl hp rfl (kin1 _ _ lcd) rfl hvs hfile S.top ?_
  refine PySem.W.ks_loadName_global kind ks (Calls.loadGlobal_builtin (env := PySem.W.ksEnv ql sc st.heap.objs.size f (.ref cda) cc) (env.mod.glob.keeps kb) hm (b1.keeps kb) ((b2 "super" (by decide)).trans hboot) ⟨rfl, ?_⟩)
  refine wpAny_loadName_free kind kc rfl ⟨_, kin1 _ _ lcc, rfl⟩ ?_
  rw [har]
  refine wpAny_loadName_local kind kself hns (v := .ref a) ?_ ?_
  · have nv' : ¬ (("self" : Str) == vn) = true := by simpa using fun z : ("self" : Str) = vn => S.nv.1 z.symm
    simp [List.lookup, nv']
  refine ks_wpAny_isType_cls (kin1 _ _ hC) rfl ⟨rfl, ?_⟩
  refine ks_wpAny_call_super (kin1 _ _ hC) rfl ga rfl (fun c z => by cases z) (PySem.W.looks_mroIn kin1 S.sub) (fun h2 e2 kp2 => ?_)
  have kin2 : K.In h2 := kin1.keeps kp2
  have J2 : PySem.W.InstAt h2 a _ C none := ⟨kp2 _ _ ga, rfl, rfl, trivial⟩
  have hsup : PySem.W.alongIn K "__init__" (((Value.ref C :: bm).dropWhile (· != .ref C)).drop 1) = some (some (.builtin "ValueError.__init__")) := by
    have z := S.sup
    unfold PySem.W.ks_superIn at z
    rw [hcl] at z
    exact z
  refine PySem.W.kxs_getMethod PySem.W.kxs_ValueError e2 (PySem.W.looks_opaque kin2 S.opq) (l₀ := Value.ref C :: bm) (fun A Q E s k q => wpAny_bind ((PySem.W.looks_clsIn kin2 hcl) A _ E s k (wpAny_pure q))) rfl kin2 hsup (J2.type.andThen (PySem.W.looks_mroIn kin2 S.ve)) (PySem.W.ks_ne kin2 J2 hcl) (by decide) ?_
  have gu : (h2.push (PySem.W.kxs_mw "ValueError.__init__" a)).get? h2.objs.size = some (PySem.W.kxs_mw "ValueError.__init__" a) := Heap.get?_push_at rfl rfl
  have kp3 : ∀ b o, h1.get? b = some o → (h2.push (PySem.W.kxs_mw "ValueError.__init__" a)).get? b = some o := fun b o e => Heap.get?_push_of_some _ (kp2 _ _ e)
  refine PySem.W.kxs_callWith (i := "ValueError.__init__") (x := a) rfl ?_
  refine Calls.evalArgs_plain (x := eval (.Constant (.str msg) j p3) (PySem.W.ksEnv ql sc st.heap.objs.size f (.ref cda) cc)) (rest := []) ?_
  refine Calls.spliced_cons (Calls.Constant_str (Calls.spliced_nil ?_))
  refine ⟨gu, ?_⟩
  refine call_mw (kp3 _ _ (kin1 _ _ hC)) (kp3 _ _ ga) gu (show 1 ≤ sizeLine by decide) (fun h4 t4 kp4 ga4 => ?_)
  have J0 := (I.kept (t' := 0) kp3).write (t' := st.toks + 2 + 1 + 1) (x := a) (e := a) (o := exo a C none) (by rw [ha]; exact True.intro) (.inl rfl) kp4 ⟨_, ga4⟩ (exo_ok ga4)
  have eu : upd h a (exo a C none) = h := by
    funext b
    by_cases hb : b = a
    · rw [hb, upd_same, ha]
    · rw [upd_ne hb]
  rw [eu] at J0
  have ps : PSs (supCx CX0 P w K mg base ["self", vn] ql sc f cda cc A out st h W) [.Assign [.Attribute (.Name "self" q1) fld q2] (.Name vn q3) q4] _ := pss_one (ps_ost (pv 0 rfl (.inl kself)) (pv 1 rfl (.inl kvn) S.nv.2.1 S.nv.2.2))
  refine wpAt_of_wpAny (wpAny_mono (ps.run [] _ [some (.ref a), some v] h { nx := fun _ h' => Z .non h', rt := Z } J0 ?_) (fun flow s2 res => ?_) fun _ _ z => z)
  · refine ⟨v, rfl, .ref a, rfl, a, C, rfl, T, S.nof, .inl ⟨ha, fun dx ndx nda => ?_⟩⟩
    exact q dx ndx nda
  · cases flow with
    | ret u => exact let ⟨v, _, h2, J, rel, z⟩ := res; ⟨v, h2, J.os, J.bare, J.base, J.hok, rel, z⟩
    | next => exact let ⟨_, h2, J, z⟩ := res; ⟨.non, h2, J.os, J.bare, J.base, J.hok, rfl, z⟩
    | brk => exact (let ⟨_, _, _, z⟩ := res; z : False).elim
    | cont => exact (let ⟨_, _, _, z⟩ := res; z : False).elim
/-! ### an exception kept behind its suite -/
/-- at a: an exception of the class cls, its dict at d -/
def exh (a : Addr) (cls : Value) (d : Option Addr) : HO := .ext fun h => ∃ (o : Obj) (vs : Array Value), h.get? a = some o ∧ Zc cls d o ∧ o.data = .fields vs
theorem exh_at {P : Program} {w : World} {H : Hp} {h : Heap} {a : Addr} {cls : Value} {d : Option Addr} (ok : HOk P w H h) (e : H a = some (exh a cls d)) : ∃ (o : Obj) (vs : Array Value), h.get? a = some o ∧ Zc cls d o ∧ o.data = .fields vs := by
  have z := ok a _ e
  exact z.1
theorem exh_ok {P : Program} {w : World} {H : Hp} {h : Heap} {a : Addr} {cls : Value} {d : Option Addr} {o : Obj} {vs : Array Value} (e : h.get? a = some o) (z : Zc cls d o) (hd : o.data = .fields vs) : ObjOk P w H h a (exh a cls d) :=
  ⟨⟨o, vs, e, z, hd⟩, ⟨o, e⟩, fun h1 h2 ⟨o1, vs1, e1, z1, d1⟩ k => ⟨o1, vs1, k _ e1, z1, d1⟩⟩
/-- an object that was not there at the def's start is followed from now on -/
theorem track {X : Cx} {pins : List (Addr × Obj)} {σ : L2.St} {H : Hp} {s : Shared} {a : Addr} {o : Obj} {vs : Array Value} {cls : Value} {d : Option Addr} (I : Inv X ((a, o) :: pins) σ H s) (z : Zc cls d o) (hd : o.data = .fields vs) (new : X.s_0.heap.get? a = none)
    (nop : ∀ p ∈ X.pn ++ pins, p.1 ≠ a) : Inv X pins σ (upd H a (exh a cls d)) s := by
  obtain ⟨ea, na, nl, nf, _⟩ := I.pin (a, o) (List.mem_append_right _ List.mem_cons_self)
  refine ⟨I.ok, I.os, I.bare, ⟨I.base.keep, I.base.slot, fun b ob e n x => ?_, I.base.there, fun b xs e => ?_, fun b ob u e => ?_, fun b ps e => ?_⟩, I.loc, I.cell, ?_, fun y c e => ?_, fun p hp => ?_, fun b u e => ?_, I.len⟩
  · rw [upd_ne (fun z => by rw [z, new] at e; cases e)]
    exact I.base.free b ob e n x
  · have z := I.base.tups b xs e
    rw [upd_ne (ne_of_none z na)]
    exact z
  · have z := I.base.frzs b ob u e
    rw [upd_ne (ne_of_none z na)]
    exact z
  · obtain ⟨m, z⟩ := I.base.tbls b ps e
    exact ⟨m, by rw [upd_ne (ne_of_none z na)]; exact z⟩
  · rw [upd_ne (Ne.symm nl)]
    exact I.free
  · obtain ⟨v, oc, ec, dc⟩ := I.cell y c e
    rw [upd_ne (fun z => by rw [z, ea] at ec; cases ec; rw [hd] at dc; cases dc)]
    exact I.freeC y c e
  · have hp' : p ∈ X.pn ++ ((a, o) :: pins) := by
      rcases List.mem_append.mp hp with z | z
      · exact List.mem_append_left _ z
      · exact List.mem_append_right _ (List.mem_cons_of_mem _ z)
    obtain ⟨g1, g2, g3, g4, g5⟩ := I.pin p hp'
    exact ⟨g1, by rw [upd_ne (nop p hp)]; exact g2, g3, g4, g5⟩
  · by_cases hb : b = a
    · subst hb
      rw [upd_same] at e
      cases e
      exact exh_ok ea z hd
    · rw [upd_ne hb] at e
      exact (I.hok b u e).stay (fun c v _ k => k) (fun c k => by rw [upd_ne (ne_of_none k na)]; exact k) fun c xs k => by rw [upd_ne (ne_of_none k na)]; exact k
/-- what 'except x as n: ..' wishes, n's object followed behind the suite -/
def wKeep (K : PySem.W.Frag) (c : Value) (i : Nat) (ts : Addr → Value → Option Addr → TS) (Wout : WX) (D : Ends) : WX := fun cls d σ H =>
  ∃ yes, PySem.W.exmOne K cls c = some yes ∧ (yes = true → ∀ a, H a = none → ts a cls d { nx := fun σ' H' => D.nx (σ'.set i none) (upd H' a (exh a cls d)), rt := D.rt, bk := fun _ _ => False, ct := fun _ _ => False } (σ.set i (some (.ref a))) H) ∧ (yes = false → Wout cls d σ H)
section
variable {X : Cx} {x n : Str} {c : Value} {i : Nat} {body suite : List Stmt} {b₀ : Stmt} {np pos pos' : Pos} {tb : WX → TS} {ts : Addr → Value → Option Addr → TS} {Wout : WX}
theorem ps_try_keep (hst : X.stack = X.env :: X.outer) (hfm : X.env.frame = some X.env.locals) (nd : X.N.Nodup) (hix : X.N[i]? = some n) (loc : X.env.kindOf n = some .local) (nam : Names X x c) (tks : Takes X Wout) (hex : X.ex = [])
    (bodyOk : ∀ (W : WX) (pn : List (Addr × Obj)) (xe : Value → Shared → Prop), Takes (X.tr pn xe) W → PassesOwn (model X.prog X.w) X.A X.env xe → PSs (X.tr pn xe) body (tb W))
    (suiteOk : ∀ (a : Addr) (oe : Obj) (cls : Value) (d : Option Addr) (pn : List (Addr × Obj)), Zc cls d oe → (∃ vs, oe.data = .fields vs) → PSs (X.suite a ((a, oe) :: pn)) (b₀ :: suite) (ts a cls d)) :
    PS X (.Try body [.ExceptHandler (some (.Name x np)) (some n) (b₀ :: suite) pos'] [] [] pos) (fun D σ H => tb (wKeep X.K c i ts Wout D) D σ H) := by
  refine ⟨fun pins st σ h D inv rdg => ?_⟩
  have okX := inv.ok
  have fr := okX.frames; rw [hst] at fr
  refine (wpAny_Try_except ?_)
  refine wpAny_mono ((bodyOk (wKeep X.K c i ts Wout D) (X.pn ++ pins) (fun e t1 => wpAny (model X.prog X.w) X.A (noteFrame e X.env) (fun _ t2 => wpAny (model X.prog X.w) X.A (setFlight e none) (fun _ t3 =>
    wpAny (model X.prog X.w) X.A (handleBy e X.env [.ExceptHandler (some (.Name x np)) (some n) (b₀ :: suite) pos']) (SP X pins D) X.xe t3) X.xe t2) X.xe t1) (fun u st' xx => ?_) PassesOwn.looking).run [] st σ h D (inv.toTry _) rdg) (fun flow t1 res => ?_) (fun _ _ z => z)
  · obtain ⟨a, G, tI, pins', σ1, h1, cls, d, rfl, K1, ground, up, sky, na, eos, ags, yes, q1, qy, qn⟩ := xx
    have I1 : Inv X pins σ1 h1 tI := K1.ofTry okX
    have sky1 : Sky G (X.env :: X.outer) a (Zc cls d) X.env.locals st'.heap := hst ▸ sky
    show wpAny (model X.prog X.w) X.A (noteFrame (.ref a) X.env) _ _ _
    refine Sky.land Zc.steady fr hfm sky1 fun hp3 fly3 up3 => ?_
    have I3 : Inv X pins σ1 h1 { st' with heap := hp3 } := I1.landed ground fly3.1 (up.trans up3) eos ags
    obtain ⟨o3, vs3, g3, z3, d3⟩ := fly3.there
    have nfr : a ∉ frs (X.env :: X.outer) := fun m => by
      obtain ⟨_, o', e', no⟩ := fly3.2.2.1.mem m
      rw [g3] at e'
      cases e'
      exact no _ d3
    have nl : a ≠ X.env.locals := fun z => nfr (List.mem_filterMap.mpr ⟨X.env, List.mem_cons_self, by rw [hfm, z]⟩)
    have nf : a ∉ X.fs := fun m => by
      obtain ⟨e, he, e2⟩ := List.mem_filterMap.mp m
      exact nfr (List.mem_filterMap.mpr ⟨e, List.mem_cons_of_mem _ he, e2⟩)
    have freshI : tI.heap.get? a = none := by
      cases e : tI.heap.get? a with
      | none => rfl
      | some o =>
        have := ground a o e (by rw [hst]; exact nfr)
        rw [fly3.2.1] at this
        cases this
    have fresh0 : X.s_0.heap.get? a = none := by
      cases e : X.s_0.heap.get? a with
      | none => rfl
      | some o =>
        obtain ⟨o', e'⟩ := I1.base.there a o e (by rw [hex]; exact List.not_mem_nil)
        rw [freshI] at e'
        cases e'
    have nop : ∀ p ∈ X.pn ++ pins, p.1 ≠ a := fun p hp z => by
      have := (I1.pin p hp).1
      rw [z, freshI] at this
      cases this
    have S3 := I3.suite g3 d3 na nl nf
    refine wpAny_handleBy_cons (codeAny_handlers_test ?_) (by intro z; cases z)
    have ty3 : PySem.W.Looks (model X.prog X.w) hp3 (typeOf (.ref a)) cls := fun A Q E s k z => wpAny_typeOf_ref (k _ _ g3) (by rw [z3.1]; exact z)
    have mt3 := PySem.W.exm_one (M := model X.prog X.w) (I3.kIn) ty3 q1
    have named : ∀ {Q : Value → Shared → Prop} {E : Value → Shared → Prop}, Q c { st' with heap := hp3 } → wpAny (model X.prog X.w) (X.A.mark (some (.ref a))) (eval (.Name x np) X.env) Q E { st' with heap := hp3 } := fun {Q E} z => by
      obtain ⟨n1, n2, n3 | ⟨n3, n4, n5⟩⟩ := nam
      · exact ld_glob (X := X.suite a ((a, o3) :: (X.pn ++ pins))) S3 n1 n3 z n2
      · exact ld_blt (X := X.suite a ((a, o3) :: (X.pn ++ pins))) S3 n1 n3 n4 z n5 n2
    refine named (mt3.here ?_)
    cases yes with
    | true =>
      refine (codeAny_handlers_suite_as ?_)
      refine HandSPX.lands_againZ fly3 fun hp4 fly4 up4 => ?_
      have I4 : Inv X pins σ1 h1 { st' with heap := hp4 } := I1.landed ground fly4.1 ((up.trans up3).trans up4) eos ags
      obtain ⟨o4, vs4, g4, z4, d4⟩ := fly4.there
      have S4 := I4.suite g4 d4 na nl nf
      refine store_ok (X := X.suite a ((a, o4) :: (X.pn ++ pins))) (v := .ref a) S4 nd hix (.inl loc) rfl (fun t5 S5 => ?_) (.inr loc)
      refine wpAny_mono ((suiteOk a o4 cls d (X.pn ++ pins) z4 ⟨_, d4⟩).run [] t5 _ h1 _ S5 (qy rfl a na)) (fun flow t6 res => ?_) (fun _ _ z => z.elim)
      have back : ∀ {σ6 : L2.St} {h6 : Hp}, Inv (X.suite a ((a, o4) :: (X.pn ++ pins))) [] σ6 h6 t6 → Inv X ((a, o4) :: pins) σ6 h6 t6 := fun {σ6 h6} S6 =>
        (S6.unsuite okX : Inv X pins σ6 h6 t6).pins_of fun p hp => by
          rcases List.mem_cons.mp hp with z | z
          · rw [z]; exact S6.pin (a, o4) (List.mem_append_left _ List.mem_cons_self)
          · exact S6.pin p (List.mem_append_left _ (List.mem_cons_of_mem _ (List.mem_append_right _ z)))
      cases flow with
      | next =>
        obtain ⟨σ6, h6, S6, q6⟩ := res
        exact gone_ok (back S6) nd hix loc fun t7 J7 => ⟨_, _, track J7 z4 d4 fresh0 nop, q6⟩
      | brk => exact (let ⟨_, _, _, z⟩ := res; z : False).elim
      | cont => exact (let ⟨_, _, _, z⟩ := res; z : False).elim
      | ret u =>
        obtain ⟨v6, σ6, h6, S6, r6, q6⟩ := res
        exact gone_ok (S6.unsuite okX) nd hix loc fun t7 J7 => ⟨_, _, _, J7, r6, q6⟩
    | false =>
      show wpAny _ X.A (handleBy (.ref a) X.env []) _ _ _
      refine (wpAny_handleBy_nil ?_)
      obtain ⟨j1, j2, j3, oe, vs, T, oT, ts', he, hz, hd, hv1, hr⟩ := id fly3
      unfold PySem.passOn
      refine (wpAny_bind (wpAny_field he hd hv1 ?_)); rw [if_neg (show ¬ ((Value.ref T == Value.none) = true) from by simp)]
      have last : wpAny (model X.prog X.w) X.A (setFlight (.ref a) X.env.frame) (fun _ t4 => wpAny (model X.prog X.w) X.A (throw (.ref a) : Sem Flow) (SP X pins D) X.xe t4) X.xe { st' with heap := hp3 } := by
        rw [hfm]
        refine HandSPX.setFlight_upZ fly3 fun hp4 held4 up4 => wpAny_throw (tks _ _ ?_)
        exact ⟨a, G, tI, pins, σ1, h1, cls, d, rfl, I1, ground, (up.trans up3).trans up4, .inr (.inr (by rw [hst]; exact held4)), na, eos, ags, qn rfl⟩
      first | exact wpAny_bind (wpAny_pure (wpAny_bind last)) | exact wpAny_bind last
  · cases flow with
    | next => exact let ⟨σ2, h2, J, q⟩ := res; wpAny_execs_nil ⟨σ2, h2, J.ofTry okX, q⟩
    | brk => exact let ⟨σ2, h2, J, q⟩ := res; ⟨σ2, h2, J.ofTry okX, q⟩
    | cont => exact let ⟨σ2, h2, J, q⟩ := res; ⟨σ2, h2, J.ofTry okX, q⟩
    | ret u => exact let ⟨v, σ2, h2, J, r, q⟩ := res; ⟨v, σ2, h2, J.ofTry okX, r, q⟩
end
/-! ### what is asked of a kept exception -/
def tXh (K : PySem.W.Frag) (f : Str) (te : TE) : TE := fun σ H Q => te σ H fun x H1 => ∃ (a C dd : Addr) (fs : List (Str × V)) (v : V), x = .ref a ∧ H1 a = some (exh a (.ref C) (some dd)) ∧ H1 dd = some (.xd fs) ∧ XfC K C ∧ PySem.W.findIn K (.ref C) f = some none ∧ fs.lookup f = some v ∧ Q v H1
theorem pe_xh {X : Cx} {e : Expr} {te : TE} {pos : Pos} {n : Str} (he : PE X e te) (hb : attributeBase e n X.env (eval e X.env) = eval e X.env := by rfl) : PE X (.Attribute e n pos) (tXh X.K n te) := by
  refine ⟨fun pins st σ h Q inv rdg => attr_of hb (thn (he.run pins st σ h _ inv rdg) fun u s1 res => ?_)⟩
  obtain ⟨x, h1, I1, rx, a, C, dd, fs, v, rfl, ea, ed, T, no, look, q⟩ := res
  obtain rfl : u = Value.ref a := rx
  obtain ⟨o, vs, g, z, hd⟩ := exh_at I1.hok ea
  obtain ⟨mA, ns, rel⟩ := (I1.hok dd _ ed : ObjOk X.prog X.w h1 s1.heap dd (.xd fs))
  obtain ⟨od, ho, hl⟩ := lookIn_ns ns
  obtain ⟨u, hu, ru⟩ := RelO.some_of (v := v) (o := mA n) (look ▸ rel n)
  have J : PySem.W.InstAt s1.heap a o C (some od) := ⟨g, z.1, by unfold PySem.W.notCls; rw [hd] <;> rfl, z.2.symm ▸ ho⟩
  exact HandSPX.exc_get I1.kIn J T.ga T.gg T.exC (PySem.W.findObj_own T.hdC no rfl (by rw [hl, hu])) (handed_of ru) ⟨v, h1, I1.tok _, ru, q⟩
/-- isinstance(y, c), y a kept exception with a dict -/
def rIsH (K : PySem.W.Frag) : List V → Hp → VK → Prop := fun xs H Q => ∃ (a C dd : Addr) (fs : List (Str × V)) (c : V) (u : Value) (b : Bool), xs = [.ref a, c] ∧ H a = some (exh a (.ref C) (some dd)) ∧ H dd = some (.xd fs) ∧ ExcC K C ∧ ClsV c u ∧ PySem.W.kitOne K (.ref C) u = some b ∧ Q (.bl b) H
theorem call_isH {X : Cx} : CallR X (.builtin "isinstance") (rIsH X.K) := by
  intro pins st σ h xs us Q inv rel pre
  obtain ⟨a, C, dd, fs, c, u, b, rfl, ea, ed, T, k, e, q⟩ := pre
  obtain ⟨w1, w2, rfl, r1, r2⟩ := vals2 rel
  obtain rfl : w1 = Value.ref a := r1
  obtain rfl := k.eq r2
  obtain ⟨o, vs, g, z, hd⟩ := exh_at inv.hok ea
  obtain ⟨mA, ns, rl⟩ := (inv.hok dd _ ed : ObjOk X.prog X.w h st.heap dd (.xd fs))
  obtain ⟨od, ho, hl⟩ := lookIn_ns ns
  have J : PySem.W.InstAt st.heap a o C (some od) := ⟨g, z.1, by unfold PySem.W.notCls; rw [hd] <;> rfl, z.2.symm ▸ ho⟩
  have hcl : (PySem.W.clsIn X.K C).isSome = true := by
    have z := T.hd
    unfold PySem.W.hasDictIn at z
    cases e : PySem.W.clsIn X.K C with
    | none => rw [e] at z; cases z
    | some _ => rfl
  exact PySem.W.kia_one (PySem.W.kitx_exc hcl T.hg T.hk T.hs T.ha T.hn T.ht T.hm) inv.kIn J e (fun z => nomatch z) fun tk => ⟨.bl b, h, inv.tok tk, rfl, q⟩
/-! ### raise C(e) -/
structure ErrMk (P : Program) (w : World) (K : PySem.W.Frag) (mg : Str → Option Value) (base : Heap) (C : Addr) (x fld : Str) : Prop where
  ex : ∃ (fI : Addr) (fd : FuncData) (vn : Str), OexC K C ∧ PySem.W.findIn K (.ref C) "__init__" = some (some (.ref fI)) ∧ PySem.W.typeIn K (.ref fI) = some (.type "function") ∧ FnOk P w K mg base CX0 1 fI fd ["self", vn] (spXI C fld) ∧ Binds K fd ["self", vn] [] ∧ mg x = some (.ref C)
theorem pmkC {X : Cx} {C : Addr} {x fld : Str} {e : Expr} {es : List Expr} {p pos : Pos} {ta : TA} (c : ErrMk X.prog X.w X.K X.mg X.base C x fld) (room : Room 2 X.A) (gl : Gl X x) (ha : PA X (e :: es) ta)
    (d1 : (x == ("__debug__" : Str)) = false := by decide) (d2 : starEach (e :: es) X.env = (false, eval e X.env) :: starEach es X.env := by rfl) (d3 : (backTo pos (starEach es X.env)).any (·.1) = false := by rfl) :
    PMk X (.Call (.Name x p) (e :: es) [] pos) (tMkO C (spXI C fld) [] ta) := by
  obtain ⟨fI, fd, vn, T, i1, i2, F, b, hm⟩ := c.ex
  exact pmk_oex T i1 i2 F room b .nil pass0 gl hm ha d1 d2 d3
theorem r_raiseO {σ : L2.St} {H : Hp} {te : TE} {C : Addr} {fld : Str} {W : XK} (q : te σ H fun v H1 => ∀ (d : Addr) (H' : Hp), Same H1 H' → H' d = some (.xd [(fld, v)]) → W (.ref C) (some d) H') (mono : ∀ (Q1 Q2 : VK), (∀ v H1, Q1 v H1 → Q2 v H1) → te σ H Q1 → te σ H Q2) :
    tMkO C (spXI C fld) [] (tCons te tNil) σ H W := by
  refine mono _ _ (fun v H1 g => ?_) q
  refine ⟨(show 1 ≤ 1000 by decide), fun a na => ⟨a, v, rfl, upd_same, fun dx ndx nda => ?_⟩⟩
  have n1 : H1 dx = none := by
    rw [upd_ne nda] at ndx
    exact ndx
  refine ⟨rfl, dx, [(fld, v)], upd_same, by rw [upd_ne nda]; exact upd_same, n1, g dx _ (fun b o e => ?_) upd_same⟩
  have b1 := ne_of_none e n1
  have b2 := ne_of_none e na
  rw [upd_ne b1, del_ne b2, upd_ne b2, upd_ne b1, upd_ne b2]
  exact e
theorem mono_var {i : Nat} {σ : L2.St} {H : Hp} (Q1 Q2 : VK) (h : ∀ v H1, Q1 v H1 → Q2 v H1) : tVar i σ H Q1 → tVar i σ H Q2 := fun ⟨v, e, q⟩ => ⟨v, e, h _ _ q⟩
end KX

/-! KY: values of many kinds: none, truths, numbers, texts, tuples, lists and dicts of such; repr of a pair, in, isinstance. -/
namespace KY
open PySem PySem.Spec PyProof.Rows L2 KB KG
inductive Sc where
  | non | bl (b : Bool) | int (i : Int) | str (x : Str)
  deriving DecidableEq
def Sc.v : Sc → V
  | .non => .non
  | .bl b => .bl b
  | .int i => .int i
  | .str x => .str x
def Sc.d : Sc → PyData
  | .non => .none
  | .bl b => .bool b
  | .int i => .int i
  | .str x => .str x
inductive Dt where
  | sc (s : Sc) | tup (l : List Sc) | lst (l : List Sc) | dct (l : List (Key × Sc))
def keyD : Key → PyData
  | .inl i => .int i
  | .inr x => .str x
def Dt.d : Dt → PyData
  | .sc s => s.d
  | .tup l => .tuple (l.map Sc.d)
  | .lst l => .list (l.map Sc.d)
  | .dct l => .dict (l.map fun p => (keyD p.1, p.2.d))
def OdAt (H : Hp) (v : V) : Dt → Prop
  | .sc s => v = s.v
  | .tup l => ∃ a, v = .ref a ∧ H a = some (.tup (l.map Sc.v))
  | .lst l => ∃ a, v = .ref a ∧ H a = some (.lst (l.map Sc.v))
  | .dct l => ∃ a, v = .ref a ∧ H a = some (.dK (l.map fun p => (p.1, p.2.v)))
theorem OdAt.to {H H' : Hp} {v : V} {t : Dt} (h : OdAt H v t) (k : ∀ a o, v = .ref a → H a = some o → H' a = some o) : OdAt H' v t := by
  cases t with
  | sc s => exact h
  | tup l => obtain ⟨a, e, g⟩ := h; exact ⟨a, e, k a _ e g⟩
  | lst l => obtain ⟨a, e, g⟩ := h; exact ⟨a, e, k a _ e g⟩
  | dct l => obtain ⟨a, e, g⟩ := h; exact ⟨a, e, k a _ e g⟩
theorem OdAt.same {H H' : Hp} {v : V} {t : Dt} (h : OdAt H v t) (s : Same H H') : OdAt H' v t := h.to fun a o _ e => s a o e
/-- it is no object of a class -/
theorem OdAt.notIns {H : Hp} {t : Dt} {a C dx : Addr} {fs : List (Str × V)} (h : OdAt H (.ref a) t) : H a ≠ some (.ins C dx fs) := by
  intro z
  cases t with
  | sc s => cases s <;> cases (show V.ref a = _ from h)
  | tup l => obtain ⟨b, e, g⟩ := h; cases e; rw [z] at g; cases g
  | lst l => obtain ⟨b, e, g⟩ := h; cases e; rw [z] at g; cases g
  | dct l => obtain ⟨b, e, g⟩ := h; cases e; rw [z] at g; cases g
section
variable {X : Cx} {pins : List (Addr × Obj)} {σ : L2.St} {H : Hp} {st : Shared}
theorem sc_reads {h : Heap} {u : Value} : ∀ s : Sc, RelV s.v u → Reads h u s.d []
  | .non, r => by cases (show u = Value.none from r); exact .none
  | .bl b, r => by cases (show u = Value.bool b from r); exact .bool b
  | .int i, r => by obtain ⟨t, rfl⟩ := (show ∃ t, u = Value.int i t from r); exact .int i t
  | .str x, r => by obtain ⟨t, rfl⟩ := (show ∃ t, u = Value.str x t from r); exact .str x t
theorem scs_reads {h : Heap} : ∀ (l : List Sc) (us : List Value), Vals (l.map Sc.v) us → ReadsAll h us (l.map Sc.d) []
  | [], us, r => by cases r; exact .nil
  | s :: l, us, r => by
    cases r with
    | cons r1 r2 => exact .cons (sc_reads s r1) (scs_reads l _ r2)
theorem dict_reads {P : Program} {w : World} {h : Heap} : ∀ (l : List (Key × Sc)) (vs : List (Key × Value)) (es : List DictEntry), KV (l.map fun p => (p.1, p.2.v)) vs → Pairs (mixKind P w) es vs →
    ReadsAll h (es.map (·.key)) ((l.map fun p => (keyD p.1, p.2.d)).map (·.1)) [] ∧ ReadsAll h (es.map (·.val)) ((l.map fun p => (keyD p.1, p.2.d)).map (·.2)) []
  | [], vs, es, k, p => by
    cases k
    cases p
    exact ⟨.nil, .nil⟩
  | (ky, s) :: l, vs, es, k, p => by
    cases k with
    | cons k1 k2 =>
      cases p with
      | cons p1 p2 p3 =>
        rename_i e es
        obtain ⟨g1, g2⟩ := dict_reads l _ _ k2 p3
        have r2 := k1.2
        rw [← p2] at r2
        refine ⟨?_, .cons (sc_reads s r2) g2⟩
        have e1 := k1.1
        have hk : keyIs ky e.key = true := by
          have z := p1
          rw [← e1] at z
          exact z
        have hr : Reads h e.key (keyD ky) [] := by
          rcases keyIs_shape hk with ⟨i, t, rfl, q⟩ | ⟨x, t, rfl, q⟩
          · rw [q]
            exact .int i t
          · rw [q]
            exact .str x t
        exact .cons hr g1
theorem noD_sc : ∀ s : Sc, s.d.hasDict = false
  | .non => rfl
  | .bl _ => rfl
  | .int _ => rfl
  | .str _ => rfl
theorem noD_scs : ∀ l : List Sc, PyData.hasDictAll (l.map Sc.d) = false
  | [] => by simp only [List.map_nil, PyData.hasDictAll]
  | s :: l => by simp only [List.map_cons, PyData.hasDictAll, noD_sc s, noD_scs l, Bool.or_false]
theorem od_reads {v : V} {u : Value} {t : Dt} (inv : Inv X pins σ H st) (o : OdAt H v t) (r : RelV v u) : ∃ as, Reads st.heap u t.d as ∧ (t.d.hasDict = true → sysModules ∉ as) := by
  cases t with
  | sc s =>
    obtain rfl : v = s.v := o
    exact ⟨_, sc_reads s r, fun _ => List.not_mem_nil⟩
  | tup l =>
    obtain ⟨a, rfl, e⟩ := o
    obtain rfl : u = Value.ref a := r
    obtain ⟨its, rv, ⟨ob, ho, hc, n, hd⟩, _⟩ := inv.tuple (SqT.of e)
    exact ⟨_, .tuple ho hc hd (scs_reads l _ rv), fun _ => List.not_mem_nil⟩
  | lst l =>
    obtain ⟨a, rfl, e⟩ := o
    obtain rfl : u = Value.ref a := r
    obtain ⟨its, rv, ⟨ob, n, ho, hc, _, hd⟩, _⟩ := inv.list (SqL.of e)
    refine ⟨_, .list ho hc hd (scs_reads l _ rv), fun z => ?_⟩
    simp only [Dt.d, PyData.hasDict, noD_scs l] at z
    cases z
  | dct l =>
    obtain ⟨a, rfl, e⟩ := o
    obtain rfl : u = Value.ref a := r
    obtain ⟨_, ns, vs, kv, ob, es, ep, ho, hex, hd, _, prs, _⟩ := dk_of inv.hok e
    obtain ⟨g1, g2⟩ := dict_reads (h := st.heap) l _ _ kv prs
    refine ⟨_, .dict ho hex.1 hd g1 g2, fun _ m => ?_⟩
    have m' : sysModules ∈ [a] := m
    rw [List.mem_singleton] at m'
    rw [← m'] at ns
    simp at ns
end
/-! ### repr of [tag, v] -/
section
variable {P : Program} {w : World} {A : Around} {E : Value → Shared → Prop} {s : Shared} {Z : Value → Shared → Prop}
theorem repr_items {a : Addr} {xs : List PyData} {o : Obj} {vs : Array Value} {n : Nat} {as1 : List Addr} (h1 : s.heap.get? a = some o) (h2 : o.cls = .type "list") (h3 : o.data = .seq vs n) (h4 : ReadsAll s.heap vs.toList xs as1) (ne : vs.toList ≠ []) (ok : PyData.showableAll xs = true) (nosys : PyData.hasDictAll xs = true → sysModules ∉ as1)
    (sz : (PyData.list xs).shown.length ≤ sizeLine) (fr : Free A) (hu : A.units + (PyData.list xs).depth + 3 < cLine)
    (q : ∀ h' u tk, (∀ b o, s.heap.get? b = some o → h'.get? b = some o) → Z (.str (PyData.list xs).shown u) { s with heap := h', toks := tk }) : wpAny (model P w) A (call (.builtin "repr") [.ref a]) Z E s := by
  have sz' : (listText (PyData.shownAll xs)).length ≤ sizeLine := by simpa only [PyData.shown] using sz
  have whole : Reads s.heap (.ref a) (.list xs) _ := .list h1 h2 h3 h4
  obtain ⟨bs, lim, kids⟩ := ReprAllK.of_readsAll (prog := P) (w := w) h4 ok nosys (fun t ht => Nat.le_trans (listText_mem_le ht) sz')
  have off : a ∉ bs := not_mem_of_deeper whole (by simp only [PyData.depth]; omega) lim
  simp only [PyData.depth] at hu
  simp only [PyData.shown] at q
  have ty : s.TypeIs (.ref a) "list" := ⟨_, h1, h2⟩
  refine repr_slot (by omega) ty F.slot_list_repr.toG ?_
  obtain ⟨l⟩ := vs
  cases l with
  | nil => exact absurd rfl ne
  | cons x l =>
    refine (wpAny_callSpecialIfBound?_slot (name := Str.ofString "__repr__") ty F.slot_list_repr (call_list_reprK h1 h2 h3 off (by simpa using kids.length_eq) (fun i y e => kids.item i y (by simpa using e)) fr (fun b _ => Clear.nil b) (show A.units + 1 + _ < cLine by omega) (fun _ _ e => e) (fun h' u tk kp => ?_) sz'))
    exact ⟨_, _, rfl, q h' u tk kp⟩
end
/-- the pair [tag, v] as data -/
def pairD (tag : Str) (t : Dt) : PyData := .list [.str tag, t.d]
structure Fit (tag : Str) (t : Dt) : Prop where
  ok : PyData.showable t.d = true
  deep : (pairD tag t).depth ≤ 60
  sz : (pairD tag t).shown.length ≤ sizeLine
section
variable {X : Cx}
def rReprT : List V → Hp → VK → Prop := fun xs H Q => ∃ (p : Addr) (tag : Str) (v : V) (t : Dt), xs = [.ref p] ∧ H p = some (.lst [.str tag, v]) ∧ OdAt H v t ∧ Fit tag t ∧ Q (.str (pairD tag t).shown) H
theorem call_reprT {k : Nat} (fr : Free X.A) (room : Room k X.A) : CallR X (.builtin "repr") rReprT := by
  intro pins st σ h xs us Z inv rel pre
  obtain ⟨p, tag, v, t, rfl, hp, od, fit, z⟩ := pre
  obtain ⟨u, rfl, rv⟩ := vals_one rel
  obtain rfl : u = Value.ref p := rv
  obtain ⟨its, rl, ⟨ob, n, ho, hc, _, hd⟩, _⟩ := inv.list (SqL.of hp)
  cases rl with
  | cons r1 rl =>
    cases rl with
    | cons r2 rl =>
      cases rl
      obtain ⟨tk, rfl⟩ := (show ∃ tk, _ = Value.str tag tk from r1)
      obtain ⟨as, rd, ns⟩ := od_reads inv od r2
      refine repr_items (xs := [.str tag, t.d]) ho hc hd (.cons (.str tag tk) (.cons rd .nil)) (by simp) ?_ (fun y m => ?_) fit.sz fr (by have := room.un; have := fit.deep; unfold pairD at this; omega) fun h' t1 tk' kp => ?_
      · simp only [PyData.showableAll, PyData.showable, fit.ok, Bool.and_true, Bool.true_and]
      · simp only [PyData.hasDictAll, PyData.hasDict, Bool.or_false, Bool.false_or] at y
        exact ns y (by simpa using m)
      · exact ⟨.str (pairD tag t).shown, h, inv.kept kp, ⟨t1, rfl⟩, z⟩
end
/-! ### a text beside a dict -/
section
open PySem.SeqAt PySem.MeetsSeq PySem.AutoSeq1
theorem str_eq_no_dict (b : Str) (u : Tok) (l : Addr) (c : Value) (es : Array DictEntry) (n : Nat) (dd : Option Addr) (sl : Array (Option Value)) :
    Meets (Builtin.«str.__eq__» ⟨[.str b u, .ref l], []⟩) (fun _ R s => s.heap.get? l = some { cls := c, dict := dd, data := .dict es n, slots := sl } ∧ R (.ok (.ret .notImplemented)) s) :=
  .of_wp fun prog w A R s h => by obtain ⟨hp, g, d, tk, os⟩ := s; obtain ⟨hl, h⟩ := h; wp_walk using wpAny_loadPart' hl, wpAny_load hl; exact ⟨_, rfl, h⟩
theorem dict_eq_no_str (l : Addr) (es : Array DictEntry) (n : Nat) (dd : Option Addr) (sl : Array (Option Value)) (b : Str) (u : Tok) :
    Meets (Builtin.«dict.__eq__» ⟨[.ref l, .str b u], []⟩) (fun _ R s => s.heap.get? l = some { cls := .type "dict", dict := dd, data := .dict es n, slots := sl } ∧ R (.ok (.ret .notImplemented)) s) :=
  .of_wp fun prog w A R s h => by obtain ⟨hp, g, d, tk, os⟩ := s; obtain ⟨hl, h⟩ := h; have f1 := F.sub_str_dict; wp_walk using wpAny_loadPart' hl; exact ⟨_, rfl, h⟩
variable {A : Around} {s : Shared}
theorem eqAt_str_dict {l : Addr} {es : Array DictEntry} {n : Nat} {ob : Obj} (b : Str) (u : Tok) (ho : s.heap.get? l = some ob) (hc : ob.cls = .type "dict") (hd : ob.data = .dict es n) (hu : A.units < cLine) : EqAt A s (.str b u) (.ref l) false := fun prog w E Q h => by
  obtain ⟨cls, dd, data, sl⟩ := ob
  simp only at hc hd
  subst hc hd
  unfold eqBool
  refine wpAny_holding ?_
  refine wpAny_ite_split (fun hab => absurd (eq_of_beq hab) nofun) (fun _ => ?_)
  refine wpAny_bind ?_
  exact rc_eq_decline_or (k := false) (typeIs_str s b u) ⟨_, ho, rfl⟩ (by decide) F.sub_dict_str F.slot_str_eq F.slot_dict_eq_refl
    (fun _ hq => call_meets F.slot_str_eq (typeIs_str s b u) F.entry_str_eq (F.args_str_eq_2 _ _) (str_eq_no_dict b u l (.type "dict") es n dd sl) ⟨ho, hq⟩)
    (fun _ hq => call_meets F.slot_dict_eq_refl ⟨_, ho, rfl⟩ F.entry_dict_eq (F.args_dict_eq_2 _ _) (dict_eq_no_str l es n dd sl b u) ⟨ho, hq⟩)
    (fun _ hq => wpAny_of_eq (rfl : isSame (.str b u) (.ref l) = pure false) hq) (.inr hu) (wpAny_truthy_bool h)
end
/-! ### v in a tuple of texts -/
def Dt.isIn (zs : List Str) : Dt → Bool
  | .sc (.str x) => decide (x ∈ zs)
  | _ => false
theorem strs_of : ∀ (zs : List Str) (us : List Value), Vals (zs.map V.str) us → ∀ u ∈ us, ∃ z tk, u = Value.str z tk
  | [], us, r => by cases r; exact fun u m => absurd m List.not_mem_nil
  | z :: zs, us, r => by
    cases r with
    | cons r1 r2 =>
      intro u m
      rcases List.mem_cons.mp m with rfl | m
      · obtain ⟨t, e⟩ := r1
        exact ⟨z, t, e⟩
      · exact strs_of zs _ r2 u m
theorem inV_no {x : V} (h : ∀ y, eqV (.str y) x = false) : ∀ zs : List Str, inV x (zs.map V.str) = false
  | [] => rfl
  | z :: zs => by
    have := inV_no h zs
    unfold inV at this ⊢
    rw [List.map_cons, List.any_cons, h z, this]
    rfl
section
variable {X : Cx}
def rNotInO (K : PySem.W.Frag) : R2 := fun x y H Q => ∃ (p : Addr) (zs : List Str) (t : Dt), y = .ref p ∧ SqT K H p (zs.map V.str) ∧ OdAt H x t ∧ Q (.bl (!t.isIn zs)) H
theorem op_notInO {k : Nat} (room : Room k X.A) : OpR X (compareOp .NotIn) (rNotInO X.K) := by
  intro pins st σ h x y v u Z inv rx ry pre
  obtain ⟨p, zs, t, rfl, sq, od, z⟩ := pre
  have un := room.un
  have flat : ∀ sc : Sc, x = sc.v → inV x (zs.map V.str) = (Dt.sc sc).isIn zs → t = .sc sc → wpAny (model X.prog X.w) X.A (compareOp .NotIn v u) (EP X pins σ Z) X.xe st := by
    intro sc e1 e2 e3
    subst e3
    refine op_notIn_seq pins st σ h x (.ref p) v u Z inv rx ry ⟨p, _, rfl, .inr sq, ?_, KB.flat_strs zs, ?_⟩
    · rw [e1]
      cases sc <;> rfl
    · show Z (.bl (!inV x (zs.map V.str))) h
      rw [e2]
      exact z
  have far : t.isIn zs = false → (∀ b tk A', A'.units ≤ X.A.units + 1 → SeqAt.EqAt A' st (.str b tk) v false) → wpAny (model X.prog X.w) X.A (compareOp .NotIn v u) (EP X pins σ Z) X.xe st := by
    intro e1 e2
    obtain rfl : u = Value.ref p := ry
    obtain ⟨its, r, pl, hz⟩ := inv.tuple sq
    refine SeqAt.notIn_tupleAt (fun _ => false) pl (fun w hw => ?_) ⟨.bl true, h, inv, ?_, ?_⟩
    · obtain ⟨b, tk, rfl⟩ := strs_of zs its r w (by simpa using hw)
      exact e2 b tk _ (Nat.le_refl _)
    · show Value.bool _ = Value.bool true
      simp
    · rw [e1] at z
      exact z
  cases t with
  | sc s =>
    have e : x = s.v := od
    refine flat s e ?_ rfl
    rw [e]
    cases s with
    | non => exact inV_no (fun _ => rfl) zs
    | bl b => exact inV_no (fun _ => rfl) zs
    | int i => exact inV_no (fun _ => rfl) zs
    | str x => exact inV_strs zs
  | tup l =>
    obtain ⟨a, rfl, e⟩ := od
    obtain rfl : v = Value.ref a := rx
    obtain ⟨its, rv, tp, _⟩ := inv.tuple (SqT.of e)
    exact far rfl fun b tk A' hA => SeqAt.EqAt.str_tuple b tk tp (by omega)
  | lst l =>
    obtain ⟨a, rfl, e⟩ := od
    obtain rfl : v = Value.ref a := rx
    obtain ⟨its, rv, tp, _⟩ := inv.list (SqL.of e)
    exact far rfl fun b tk A' hA => SeqAt.EqAt.str_list b tk tp.isList (by omega)
  | dct l =>
    obtain ⟨a, rfl, e⟩ := od
    obtain rfl : v = Value.ref a := rx
    obtain ⟨_, ns, vs, kv, ob, es, ep, ho, hex, hd, _, prs, _⟩ := dk_of inv.hok e
    exact far rfl fun b tk A' hA => eqAt_str_dict b tk ho hex.1 hd (by omega)
end
/-! ### its type -/
def Dt.ty : Dt → String
  | .sc .non => "NoneType"
  | .sc (.bl _) => "bool"
  | .sc (.int _) => "int"
  | .sc (.str _) => "str"
  | .tup _ => "tuple"
  | .lst _ => "list"
  | .dct _ => "dict"
theorem OdAt.tyX {K : PySem.W.Frag} {H : Hp} {v : V} {t : Dt} (h : OdAt H v t) : TyX K H v (.type t.ty) := by
  cases t with
  | sc s =>
    obtain rfl : v = s.v := h
    cases s with
    | non => exact .base .non
    | bl b => exact .base (.bl b)
    | int i => exact .base (.int i)
    | str x => exact .base (.str x)
  | tup l => obtain ⟨a, rfl, e⟩ := h; exact .base (.tup e)
  | lst l => obtain ⟨a, rfl, e⟩ := h; exact .base (.lst e)
  | dct l => obtain ⟨a, rfl, e⟩ := h; exact .base (.dK e)
def Dt.isStr : Dt → Bool
  | .sc (.str _) => true
  | _ => false
theorem r_isStr {K : PySem.W.Frag} {H : Hp} {Q : VK} {v : V} {t : Dt} (h : OdAt H v t) (q : Q (.bl t.isStr) H) : rIsi K [v, .ty "str"] H Q := by
  refine ⟨v, .ty "str", _, .type "str", t.isStr, rfl, .ty _, h.tyX, ?_, q⟩
  have h1 : kitB "NoneType" "str" = some false ∧ kitB "bool" "str" = some false ∧ kitB "int" "str" = some false ∧ kitB "str" "str" = some true ∧ kitB "tuple" "str" = some false ∧ kitB "list" "str" = some false ∧ kitB "dict" "str" = some false := by decide +kernel
  cases t with
  | sc s =>
    cases s with
    | non => exact kit_ty h1.1
    | bl b => exact kit_ty h1.2.1
    | int i => exact kit_ty h1.2.2.1
    | str x => exact kit_ty h1.2.2.2.1
  | tup l => exact kit_ty h1.2.2.2.2.1
  | lst l => exact kit_ty h1.2.2.2.2.2.1
  | dct l => exact kit_ty h1.2.2.2.2.2.2
/-! ### list.count of truths -/
section
variable {X : Cx}
def rCntB (K : PySem.W.Frag) : V → List V → Hp → VK → Prop := fun x xs H Q => ∃ (p : Addr) (bs : List Bool) (b : Bool), x = .ref p ∧ xs = [.bl b] ∧ SqL K H p (bs.map V.bl) ∧ Q (.int (bs.count b : Nat)) H
theorem bls_of : ∀ (bs : List Bool) (us : List Value), Vals (bs.map V.bl) us → us = bs.map Value.bool
  | [], us, r => by cases r; rfl
  | b :: bs, us, r => by
    cases r with
    | cons r1 r2 =>
      rw [bls_of bs _ r2, show _ = Value.bool b from r1]
      rfl
theorem mt_countB : MtR X "list.count" (rCntB X.K) := by
  intro pins s σ H x xs v us Q I rx rxs h
  obtain ⟨p, bs, b, rfl, rfl, hs, q⟩ := h
  cases rx
  obtain ⟨u, rfl, ru⟩ := rxs.one
  obtain rfl : u = Value.bool b := ru
  obtain ⟨its, rv, ⟨⟨cls, dd, data, sl⟩, n, ho, hc, hdn, hd⟩, hlen⟩ := I.list hs
  simp only at hc hd
  subst hc hd
  have hi := bls_of bs its rv
  subst hi
  refine call_meets PySem.F.slot_list_count ⟨_, ho, rfl⟩ PySem.F.entry_list_count (PySem.F.args_list_count_2 _ _)
    (SeqAt.list_countAt p (bs.map Value.bool).toArray n dd sl (.bool b) (fun y => match y with | .bool c => c == b | _ => false)) ⟨ho, fun y hy => ?_, ?_⟩
  · have hy' : y ∈ bs.map Value.bool := by simpa using hy
    obtain ⟨c, _, rfl⟩ := List.mem_map.mp hy'
    exact SeqAt.EqAt.bool_bool c b
  · have ec : (bs.map Value.bool).toArray.toList.countP (fun y => match y with | .bool c => c == b | _ => false) = bs.count b := by
      show (bs.map Value.bool).countP _ = _
      rw [List.countP_map]
      rfl
    refine ⟨.int (bs.count b : Nat), H, I.tok _, ⟨s.toks, ?_⟩, q⟩
    show Value.int ((_ : Nat) : Int) s.toks = Value.int ((bs.count b : Nat) : Int) s.toks
    rw [ec]
end
end KY

/-! KL: lambdas handed to a def that asks them; the law's end with tables of code objects, no repr under way; own == beside other types. -/
namespace KL
open PySem PySem.Spec PyProof.Rows L2 KB KG LamX
/-! ### the law's end -/
section
variable {P : Program} {w : World} {K : PySem.W.Frag} {mg bm : Str → Option Value} {k : Nat} {fa a : Addr} {cs : List (Addr × Addr)} {fd : FuncData} {x : Str} {sp : Sp} {st : Shared} {us : List Value} {ns : List Int}
def TabIs (cs : List (Addr × Addr)) (b : Addr) : Prop := ∃ p ∈ cs, p.2 = b
theorem law_GT (kin : K.In st.heap) (gl : st.heap.Ns mainGlobals mg) (bl : st.heap.Ns builtinsNs bm) (bb : ∀ y : Str, y ≠ "__name__" → bm y = bootBuiltins y) (nolim : st.heap.NoLimit) (nogen : st.gens = #[])
    (empty : ∀ p ∈ cs, st.heap.get? p.2 = some (PySem.W.tabObj #[])) (off : ∀ p ∈ cs, K.lookup p.2 = none) (codes : ∀ p ∈ cs, PySem.W.CodeHd st.heap p.1 p.2)
    (bmain : ∃ (m : Addr) (ob : Obj), mg "__builtins__" = some (.ref m) ∧ m ≠ builtinsNs ∧ st.heap.get? m = some ob ∧ ob.cls = .type "module" ∧ ob.dict = some builtinsNs ∧ ob.data = .plain)
    (at_ : st.heap.get? a = some { cls := .type "list", data := .seq us.toArray }) (allInt : IntsAre us ns) (few : ns.length ≤ sizeLine) (room : Room k callerA)
    (F : ∀ base : Heap, K.In base → base.Ns mainGlobals mg → (∀ p ∈ cs, TabB base mg p.1 p.2) → FnG P w K mg base CX0 k fa fd [x] sp) (bind : ∀ (s : Shared) (u : Value), BindsTo s fd ⟨[u], []⟩ [(x, u)])
    (pre : ∀ H : Hp, (∀ p ∈ cs, H p.2 = some (.tbl #[])) → SqL K H a (ns.map V.int) → sp [.ref a] H (fun v _ => v = .bl true) fun _ _ _ => False) :
    codeAny (model P w) callerA (.call (.ref fa) ⟨[.ref a], []⟩) (fun r s2 => r = .ok (.ret (.bool true)) ∧ OldK st.heap s2.heap ∧ s2.os = st.os ∧ AllBare s2.gens) st := by
  classical
  have isT : ∀ {b : Addr}, TabIs cs b → st.heap.get? b = some (PySem.W.tabObj #[]) := fun {b} ⟨p, hp, e⟩ => e ▸ empty p hp
  have aT : ¬ TabIs cs a := fun z => by
    have y := isT z
    rw [at_] at y
    have y2 : Data.seq us.toArray _ = Data.fields #[] := congrArg Obj.data (Option.some.inj y)
    cases y2
  have main : ∀ H : Hp, (∀ b, TabIs cs b → H b = some (.tbl #[])) → (∀ b, H b = none ∨ TabIs cs b ∨ ∃ o ys, H b = some (.frz o (.lst ys))) → SqL K H a (ns.map V.int) → HOk P w H st.heap → (∀ b, H b ≠ none → b = a ∨ TabIs cs b) → (H a ≠ none → K.lookup a = none) →
      codeAny (model P w) callerA (.call (.ref fa) ⟨[.ref a], []⟩) (fun r s2 => r = .ok (.ret (.bool true)) ∧ OldK st.heap s2.heap ∧ s2.os = st.os ∧ AllBare s2.gens) st := by
    intro H tabs only sq hok isA noK
    have free_of : ∀ {b : Addr} {o : Obj}, st.heap.get? b = some o → (∀ ys m, o.data ≠ .seq ys m) → o.data ≠ .fields #[] → H b = none := by
      intro b o e nd nf
      cases q : H b with
      | none => rfl
      | some z =>
        rcases isA b (by rw [q]; simp) with eb | eb
        · rw [eb, at_] at e
          exact absurd (congrArg Obj.data (Option.some.inj e)).symm (nd _ _)
        · rw [isT eb] at e
          exact absurd (congrArg Obj.data (Option.some.inj e)).symm nf
    have kb : K.In (hidT st.heap H) := by
      intro b o e
      refine hidT_get (kin b o e) ?_
      cases q : H b with
      | none => rfl
      | some z =>
        rcases isA b (by rw [q]; simp) with eb | ⟨p, hp, eb⟩
        · rw [eb] at e q
          rw [noK (by rw [q]; simp)] at e
          cases e
        · rw [← eb, off p hp] at e
          cases e
    have ns_of : ∀ {b : Addr} {m : Str → Option Value}, st.heap.Ns b m → (hidT st.heap H).Ns b m := by
      intro b m h
      obtain ⟨o, es, ep, e, d, r⟩ := h
      exact ⟨o, es, ep, hidT_get e (free_of e (fun ys n z => by rw [d] at z; cases z) (fun z => by rw [d] at z; cases z)), d, r⟩
    have hm : Mod K mg (hidT st.heap H) := ⟨kb, ns_of gl, ⟨bm, ns_of bl, bb⟩, by obtain ⟨mc, z1, z2⟩ := nolim; exact ⟨mc, ns_of z1, z2⟩⟩
    have tb : ∀ p ∈ cs, TabB (hidT st.heap H) mg p.1 p.2 := by
      intro p hp
      have hTp := empty p hp
      refine ⟨?_, ?_, fun z => ?_⟩
      · obtain ⟨o, ws, file, tf, flags, tg, inF, text, tt, e1, r1, r2, r3, rest⟩ := codes p hp
        refine ⟨o, ws, file, tf, flags, tg, inF, text, tt, hidT_get e1 (free_of e1 (fun ys n z => by rw [r2] at z; cases z) (fun z => ?_)), r1, r2, r3, rest⟩
        rw [r2] at z
        cases z
        simp at r3
      · obtain ⟨m, ob, b1, b2, b3, b4, b5, b6⟩ := bmain
        refine ⟨m, ob, b1, b2, fun q => ?_, fun q => ?_, hidT_get b3 (free_of b3 (fun ys n z => by rw [b6] at z; cases z) (fun z => by rw [b6] at z; cases z)), b4, b5, b6⟩
        · obtain ⟨o, es, ep, e, hd, _⟩ := gl
          rw [q, e] at b3
          cases b3
          rw [hd] at b6
          cases b6
        · rw [q, hTp] at b3
          cases b3
          cases b6
      · obtain ⟨o, es, ep, e, hd, _⟩ := gl
        rw [z, hTp] at e
        cases e
        cases hd
    have env : Env0 P w K mg (hidT st.heap H) callerA [] st H := ⟨rfl, hm, fun b o e => of_hidT e, Nat.le_of_eq (hidT_size _ _), trivial, fun b z => (List.not_mem_nil z).elim, hok, .of_eq nogen⟩
    refine codeAny_mono ((F _ kb (ns_of gl) tb).go callerA rfl [] st H ⟨[.ref a], []⟩ [.ref a] [.ref a] _ _ room env (bind st (.ref a)) (.cons rfl .nil) (pre H (fun p hp => tabs _ ⟨p, hp, rfl⟩) sq)) fun res s2 z => ?_
    match res, z with
    | .error e, z => exact z.elim
    | .ok .next, z => exact z.elim
    | .ok .brk, z => exact z.elim
    | .ok .cont, z => exact z.elim
    | .ok (.ret u), z =>
      obtain ⟨v, H2, z1, z2, un, hok2, rel, rfl⟩ := z
      obtain rfl : u = Value.bool true := rel
      have stay : ∀ b o, ¬ TabIs cs b → st.heap.get? b = some o → s2.heap.get? b = some o := by
        intro b o nb e
        cases q : H b with
        | none => exact un.keep b o e q (fun y => List.not_mem_nil y) (fun y => List.not_mem_nil y)
        | some y =>
          rcases only b with y1 | y1 | ⟨o1, ys, y1⟩
          · rw [q] at y1; cases y1
          · exact absurd y1 nb
          · have y2 := (hok b _ y1).1
            have y3 := (hok2 b _ (un.frzs b o1 _ y1)).1
            rw [e] at y2
            rw [Option.some.inj y2]
            exact y3
      have grown : ∀ p ∈ cs, ∃ more : Array Value, s2.heap.get? p.2 = some { cls := .none, data := .fields more } := by
        intro p hp
        obtain ⟨more, y⟩ := un.tbls p.2 #[] (tabs _ ⟨p, hp, rfl⟩)
        exact ⟨_, hok2 p.2 _ y⟩
      refine ⟨rfl, ⟨fun b o e => ?_, fun b o e => ?_⟩, z1, z2⟩
      · by_cases hb : TabIs cs b
        · obtain ⟨p, hp, rfl⟩ := hb
          obtain ⟨more, g⟩ := grown p hp
          rw [empty p hp] at e
          cases e
          exact .inr (.inl ⟨((codes p hp).tab (empty p hp)).isCodeTable, rfl, #[], more, rfl, by rw [Array.empty_append]; exact g⟩)
        · exact .inl (stay b o hb e)
      · by_cases hb : TabIs cs b
        · obtain ⟨p, hp, rfl⟩ := hb
          obtain ⟨more, g⟩ := grown p hp
          exact ⟨_, g⟩
        · exact ⟨o, stay b o hb e⟩
  have vals := vals_ints allInt
  have lens := allInt.length
  cases look : K.lookup a with
  | some o =>
    have e := kin a o look
    rw [at_] at e
    obtain rfl := Option.some.inj e
    refine main (fun b => if TabIs cs b then some (.tbl #[]) else none) (fun b hb => if_pos hb) (fun b => ?_) (.inr ⟨_, us.toArray, _, look, rfl, rfl, rfl, by rw [List.size_toArray, lens]; exact few, by simpa using vals⟩) (fun b u z => ?_) (fun b z => ?_) (fun z => absurd (if_neg aT) z)
    · by_cases hb : TabIs cs b
      · exact .inr (.inl hb)
      · exact .inl (if_neg hb)
    · by_cases hb : TabIs cs b
      · have y := (if_pos hb).symm.trans z
        cases y
        exact isT hb
      · have y := (if_neg hb).symm.trans z
        cases y
    · by_cases hb : TabIs cs b
      · exact .inr hb
      · exact absurd (if_neg hb) z
  | none =>
    refine main (upd (fun b => if TabIs cs b then some (.tbl #[]) else none) a (.frz { cls := .type "list", data := .seq us.toArray } (.lst (ns.map V.int)))) (fun b hb => ?_) (fun b => ?_) (.inl (.inr ⟨_, upd_same⟩)) (fun b y z => ?_) (fun b z => ?_) fun _ => look
    · rw [upd_ne (show b ≠ a from fun z => aT (by rw [← z]; exact hb))]
      exact if_pos hb
    · by_cases eb : b = a
      · rw [eb, upd_same]; exact .inr (.inr ⟨_, _, rfl⟩)
      · rw [upd_ne eb]
        by_cases hb : TabIs cs b
        · exact .inr (.inl hb)
        · exact .inl (if_neg hb)
    · by_cases eb : b = a
      · subst eb
        rw [upd_same] at z
        obtain rfl := Option.some.inj z
        exact ⟨at_, by rw [List.length_map]; exact few, us, _, vals, at_⟩
      · rw [upd_ne eb] at z
        by_cases hb : TabIs cs b
        · have y := (if_pos hb).symm.trans z
          cases y
          exact isT hb
        · have y := (if_neg hb).symm.trans z
          cases y
    · by_cases eb : b = a
      · exact .inl eb
      · by_cases hb : TabIs cs b
        · exact .inr hb
        · exact absurd ((upd_ne eb).trans (if_neg hb)) z
end
/-- the goal that the head leaves, from the law's own promise; names: the defs whose tables are wanted -/
theorem walkGT {l : PySem.W.OpenLaw} {n k : Nat} {q : Program} {loose : List Str} {XP : (Str → Option Value) → Heap → Prop} {YP : World → Heap → Prop} {d : DefRec} {K : Params → PySem.W.Frag} {sp : World → List (Addr × Addr) → Sp} {x : Str} {names : List Str}
    (hn : l.most = some n) (n2 : n ≤ sizeLine) (nodef : d.params.defaults = []) (room : Room k callerA) (recs : (names.all fun y => (recsOf q).any fun e => e.name == y) = true) (hY : ∀ (w : World) (h : Heap), YP w h → (K w.params).In h)
    (F : ∀ (w : World) (mg : Str → Option Value) (fa : Addr) (h : Heap), (K w.params).In h → h.Ns mainGlobals mg → mg d.name = some (.ref fa) →
      ∃ (fd : FuncData) (cs : List (Addr × Addr)), cs.length = names.length ∧ (∀ p ∈ names.zip cs, PySem.W.tabIn (K w.params) p.1 = some p.2) ∧ (∀ p ∈ cs, (K w.params).lookup p.2 = none) ∧ (∀ (s : Shared) (u : Value), BindsTo s fd ⟨[u], []⟩ [(x, u)]) ∧
        ∀ base : Heap, (K w.params).In base → base.Ns mainGlobals mg → (∀ p ∈ cs, TabB base mg p.1 p.2) → FnG l.prog w (K w.params) mg base CX0 k fa fd [x] (sp w cs))
    (pre : ∀ (w : World) (H : Hp) (a : Addr) (cs : List (Addr × Addr)) (ns : List Int), ns.length ≤ n → (∀ p ∈ cs, H p.2 = some (.tbl #[])) → SqL (K w.params) H a (ns.map V.int) → sp w cs [.ref a] H (fun v _ => v = .bl true) fun _ _ _ => False) :
    PySem.W.WalkO q loose XP YP l.row.toRowW d [] (fun f vs => PySem.call f vs) := by
  refine Att.attach_callB hn nodef fun w s0 st mg bm fa o pm cd doc a us ns G Y ho hd hcd hmg hobj allInt size _ nogen => ?_
  have kin := hY w _ Y
  obtain ⟨fd, cs, len, tabs, off, bind, hF⟩ := F w mg fa _ kin G.T.g hmg
  have each : ∀ p ∈ cs, PySem.W.CodeHd st.heap p.1 p.2 ∧ st.heap.get? p.2 = some (PySem.W.tabObj #[]) := by
    intro p hp
    obtain ⟨i, hi, e⟩ := List.getElem_of_mem hp
    have hi2 : i < names.length := by omega
    have m : (names[i], p) ∈ names.zip cs := by
      rw [← e]
      have hz : i < (names.zip cs).length := by rw [List.length_zip]; omega
      have := List.getElem_mem hz
      rwa [List.getElem_zip] at this
    have t := tabs _ m
    have r := List.all_eq_true.mp recs names[i] (List.getElem_mem hi2)
    have s : ((recsOf q).find? fun e => e.name == names[i]).isSome = true := by
      rw [List.find?_isSome]
      obtain ⟨y, y1, y2⟩ := List.any_eq_true.mp r
      exact ⟨y, y1, y2⟩
    obtain ⟨dL, hL⟩ := Option.isSome_iff_exists.mp s
    exact PySem.W.tab_of G.T kin hL t
  exact law_GT kin G.T.g G.T.b G.T.builtins G.T.nolimit nogen (fun p hp => (each p hp).2) off (fun p hp => (each p hp).1) G.T.bmain hobj allInt (Nat.le_trans size n2) room hF bind fun H hH sq => pre w H a cs ns size hH sq
/-! ### tables kept -/
theorem tabs_to {T : List (Addr × Str)} {H H' : Hp} (t : Tabs T H) (k : ∀ b o, H b = some o → (∀ xs, o ≠ .lst xs) → H' b = some o) : Tabs T H' := by
  intro p hp
  obtain ⟨ps, h1, h2, h3⟩ := t p hp
  refine ⟨ps, k _ _ h1 (fun xs z => by cases z), h2, fun pos cv hc => ?_⟩
  obtain ⟨c, e1, e2⟩ := h3 pos cv hc
  exact ⟨c, e1, k _ _ e2 (fun xs z => by unfold CodeO at z; cases z)⟩
theorem tabs_same {T : List (Addr × Str)} {H H' : Hp} (t : Tabs T H) (s : Same H H') : Tabs T H' := tabs_to t fun b o e _ => s b o e
/-- an exception taken knows how many names there are -/
theorem takes_len {X : Cx} {W : WX} (tk : Takes X W) : Takes X (fun cls d σ H => σ.length = X.N.length → W cls d σ H) := fun u s' ⟨a, B, sI, pins, σ, H, cls, d, e, I, nb, up, sky, na, os, ag, w⟩ =>
  tk u s' ⟨a, B, sI, pins, σ, H, cls, d, e, I, nb, up, sky, na, os, ag, w I.len⟩
/-- what the lambda's body lets out -/
theorem lam_takes {X : Cx} {A : Around} {outer : List Env} {s : Shared} {H : Hp} {E : XK} {scope : Scope} {f c' : Addr} : Takes (lamCx X A outer s H E scope f c') (fun cls d _ H' => E cls d H') := takes_of rfl rfl rfl rfl
theorem lam_pass {X : Cx} {A : Around} {outer : List Env} {s : Shared} {H : Hp} {E : XK} {scope : Scope} {f c' : Addr} : Passes (L2.CX X.prog X.w) (lamCx X A outer s H E scope f c') E := passes_call lam_takes fun _ _ _ _ h => h
/-- what a def that may raise lets out -/
theorem def_takes {P : Program} {w : World} {K : PySem.W.Frag} {mg : Str → Option Value} {base : Heap} {N : List Str} {ql : Str} {sc : Scope} {f : Addr} {cv : Value} {A : Around} {out : List Env} {st : Shared} {h : Hp} {E : XK} : Takes (cxOf (L2.CX P w) P w K mg base N ql sc f cv A out st h E) (fun cls d _ H' => E cls d H') := takes_of rfl rfl rfl rfl
/-! ### own == beside a value of another type -/
section
variable {X : Cx}
def rEqOth (K : PySem.W.Frag) (C : Addr) (sp : Sp) : R2 := fun x y H Q => ∃ (a dx : Addr) (fs : List (Str × V)) (T : String), x = .ref a ∧ H a = some (.ins C dx fs) ∧ TyB K H y T ∧ (T = "str" ∨ T = "list" ∨ T = "tuple") ∧ PySem.W.notFirst K C (.type T) = true ∧ sp [x, y] H Q E0
theorem ty_looks {M : Model} {s : Shared} {u : Value} {T : String} (h : s.TypeIs u T) (hT : T = "str" ∨ T = "list" ∨ T = "tuple") (hu : (∃ z t, u = .str z t) ∨ ∃ b, u = .ref b) : PySem.W.Looks M s.heap (typeOf u) (.type T) := by
  rcases hu with ⟨z, t, rfl⟩ | ⟨b, rfl⟩
  · intro A Q E s' k q
    have e : typeOf (.str z t) = pure (.type "str") := rfl
    have e2 : typeOf (.str z t) = pure (.type T) := h
    rw [e2]
    exact wpAny_pure q
  · obtain ⟨o, g, c⟩ := h
    exact fun A Q E s' k q => wpAny_typeOf_ref (k _ _ g) (by rw [c]; exact q)
theorem op_eqOth {C : Addr} {ps : List Str} {sp : Sp} {n : Nat} (c : KO.OwnM X.prog X.w X.K X.mg X.base n C "__eq__" ps sp) (room : Room n X.A) : OpR X (compareOp .Eq) (rEqOth X.K C sp) := by
  obtain ⟨g, fd, hs, hf, F, bind⟩ := c.ex
  intro pins st σ h x y v u Z inv rx ry pre
  obtain ⟨a, dx, fs, T, rfl, ha, ty, hT, nf, z⟩ := pre
  obtain rfl : v = Value.ref a := rx
  obtain ⟨od, J⟩ := KO.inst_of inv ha
  obtain ⟨m, hF⟩ := inv.fr
  have hu : (∃ z t, u = .str z t) ∨ ∃ b, u = .ref b := by
    cases ty with
    | str x => obtain ⟨t, rfl⟩ := (show ∃ t, u = Value.str x t from ry); exact .inl ⟨_, _, rfl⟩
    | @lst b => exact .inr ⟨b, ry⟩
    | @tup b => exact .inr ⟨b, ry⟩
    | non => exact absurd hT (by decide)
    | bl => exact absurd hT (by decide)
    | int => exact absurd hT (by decide)
    | byt => exact absurd hT (by decide)
    | dK => exact absurd hT (by decide)
  have lk := ty_looks (M := model X.prog X.w) (ty.is inv ry) hT hu
  rw [show compareOp .Eq (.ref a) u = richCompare .Eq (.ref a) u from rfl]
  refine PySem.W.cmp_K (op := .Eq) (tb := .type T) room.units0 hF inv.ok.mod.kin J lk nf hs hf ?_
  refine wpAny_mono (KO.run0 (E' := X.xe) (xs := [.ref a, y]) F room inv.env0 bind inv (.cons rfl (.cons ry .nil)) z) (fun w s2 r => ?_) fun _ _ z => z
  obtain ⟨z', h2, inv2, rz, qz⟩ := r
  exact SlX.cmpback rz ⟨z', h2, inv2, rz, qz⟩
end
end KL

/-! KC: own objects called, shown by repr, compared with data of any type; classes made with defaults. -/
namespace KC
open PySem PySem.Spec PyProof.Rows L2 KB KG KO
theorem cx_KX {CX : CXT} {P : Program} {w : World} {K : PySem.W.Frag} {mg : Str → Option Value} {base : Heap} {N : List Str} {qual : Str} {sc : Scope} {f : Addr} {cd : Value} {A : Around} {outer : List Env} {s : Shared} {H : Hp} {E : XK} : (cxOf CX P w K mg base N qual sc f cd A outer s H E).K = K := rfl
/-! ### b(e, ..), b an own object -/
section
variable {M : Model} {A : Around} {E : Value → Shared → Prop} {s : Shared} {C dx x : Addr} {pos : Pos} {Q : Value → Shared → Prop}
theorem callWith_own {args : List (Bool × Sem Value)} {kws : List (Option Str × Sem Value)} (plain : (args.any (·.1) || kws.any (·.1.isNone)) = false)
    (h : wpAny M A (evalArgs (.ref x) true args kws) (fun a t => (∃ od, PySem.W.InstAt t.heap x (PySem.W.instObj C dx) C od) ∧ wpAny M A (call (.ref x) a.pos a.kw) Q E t) E s) : wpAny M A (callWith pos (.ref x) [] args kws) Q E s := by
  unfold callWith
  refine wpAny_bind (wpAny_holding (wpAny_mono h (fun a t g => wpAny_bind (wpAny_standAt ?_)) fun _ _ y => y))
  obtain ⟨od, J⟩ := g.1
  have L := PySem.W.kco_keeper (M := M) J rfl
  simp only [plain]
  refine wpAny_bind (L.here ?_)
  have tail : ∀ {m : Sem Value}, wpAny M A m Q E t → wpAny M A (m >>= fun r => holding [r] point >>= fun _ => pure r) Q E t :=
    fun hm => wpAny_bind (wpAny_mono hm (fun r u hr => wpAny_bind (wpAny_holding (wpAny_point (wpAny_pure hr)))) fun _ _ y => y)
  exact tail (wpAny_operateT g.2)
end
section
variable {X : Cx}
structure OwnC (P : Program) (w : World) (K : PySem.W.Frag) (mg : Str → Option Value) (base : Heap) (CX : CXT) (k : Nat) (C : Addr) (ps : List Str) (sp : Sp) : Prop where
  ex : ∃ (g : Addr) (fd : FuncData), PySem.W.findIn K (.ref C) "__call__" = some (some (.ref g)) ∧ PySem.W.isFn K (.ref g) = true ∧ PySem.W.fnIn K g = true ∧ FnOk P w K mg base CX k g fd ps sp ∧ Binds K fd ps []
def tCallO (C : Addr) (sp : Sp) (E : XK) (tf : TE) (t : TA) : TE := fun σ H Q => tf σ H fun x H1 => ∃ (a dx : Addr) (fs : List (Str × V)), x = .ref a ∧ H1 a = some (.ins C dx fs) ∧ t σ H1 fun vs H2 => H2 a = some (.ins C dx fs) ∧ sp (x :: vs) H2 Q E
theorem pe_callO {CX : CXT} {k : Nat} {C : Addr} {x : Str} {ps : List Str} {sp : Sp} {E : XK} {e : Expr} {es : List Expr} {p pos : Pos} {tf : TE} {t : TA} (c : OwnC X.prog X.w X.K X.mg X.base CX k C ps sp) (room : Room k X.A) (pass : Passes CX X E) (hf : PE X (.Name x p) tf) (ha : PA X (e :: es) t)
    (d2 : starEach (e :: es) X.env = (false, eval e X.env) :: starEach es X.env := by rfl) (d3 : (backTo pos (starEach es X.env)).any (·.1) = false := by rfl) :
    PE X (.Call (.Name x p) (e :: es) [] pos) (tCallO C sp E tf t) := by
  obtain ⟨g, fd, hs, hfn, hfi, F, bind⟩ := c.ex
  refine ⟨fun pins st σ h Z inv pre => wpAny_Call_Name_kw (thn (hf.run pins st σ h _ inv pre) fun u s1 r => ?_)⟩
  obtain ⟨v, h1, inv1, rv, a, dx, fs, rfl, ea, z⟩ := r
  obtain rfl : u = Value.ref a := rv
  refine callWith_own (C := C) (dx := dx) (by rw [d2]; show ((false || (backTo pos (starEach es X.env)).any (·.1)) || false) = false; rw [d3]; rfl) ?_
  have main := thn (Q' := fun (ws : List Value) (s2 : Shared) => (∃ od, PySem.W.InstAt s2.heap a (PySem.W.instObj C dx) C od) ∧ wpAny (model X.prog X.w) X.A (call (.ref a) ws) (EP X pins σ Z) X.xe s2) (ha.run pos pins s1 σ h1 _ inv1 z) fun ws s2 r => ?_
  · rw [d2] at main ⊢
    exact Calls.evalArgs_plain main
  · obtain ⟨xs, h2, inv2, rel, ea2, z2⟩ := r
    obtain ⟨od, J⟩ := inst_of inv2 ea2
    refine ⟨⟨_, J⟩, ?_⟩
    have rel2 : Vals (V.ref a :: xs) (Value.ref a :: ws) := .cons rfl rel
    have size : ((Value.ref a :: ws) ++ []).length = ps.length := by rw [List.append_nil, ← rel2.length]; exact F.len _ _ _ _ z2
    have bd := bind s2 (Value.ref a :: ws) inv2.kIn size
    rw [List.append_nil] at bd
    refine wpAny_call (codeAny_mono (PySem.W.kco_code inv2.kIn J rfl hs hfn hfi (F.run X.A X.stack s2 h2 ⟨Value.ref a :: ws, []⟩ _ _ Z E room inv2.env0 bd rel2 z2)) fun res s3 y => ?_)
    match res, y with
    | .error e, y => exact pass pins σ h2 s2 e s3 inv2 y
    | .ok (.ret u), y => exact inv2.after y
    | .ok .next, y => exact y.elim
    | .ok .brk, y => exact y.elim
    | .ok .cont, y => exact y.elim
/-! ### repr(o) by own __repr__ -/
def rReprOwn (C : Addr) (sp : Sp) : List V → Hp → VK → Prop := fun xs H Q => ∃ a dx fs, xs = [.ref a] ∧ H a = some (.ins C dx fs) ∧ sp [.ref a] H (fun v H' => ∃ t, v = .str t ∧ Q (.str t) H') E0
theorem call_reprO {C : Addr} {ps : List Str} {sp : Sp} {n : Nat} (c : OwnM X.prog X.w X.K X.mg X.base n C "__repr__" ps sp) (room : Room (n + 1) X.A) : CallR X (.builtin "repr") (rReprOwn C sp) := by
  obtain ⟨g, fd, hs, hf, F, bind⟩ := c.ex
  intro pins st σ h xs us Z inv rel pre
  obtain ⟨a, dx, fs, rfl, ha, z⟩ := pre
  obtain ⟨u, rfl, ru⟩ := vals_one rel
  obtain rfl : u = Value.ref a := ru
  obtain ⟨od, J⟩ := inst_of inv ha
  obtain ⟨m, hF⟩ := inv.fr
  have un := room.un
  refine PySem.W.repr_K (show X.A.units + 1 < cLine by omega) hF inv.ok.mod.kin J hs hf ?_
  refine wpAny_mono (run0 (E' := X.xe) (xs := [.ref a]) F room.in1 inv.env0.in1 bind inv (.cons rfl .nil) z) (fun w s2 r => ?_) fun _ _ z => z
  obtain ⟨v', h2, inv2, rz, t, rfl, q2⟩ := r
  obtain ⟨tk, rfl⟩ : ∃ tk, w = Value.str t tk := rz
  exact ⟨.str t, h2, inv2, ⟨tk, rfl⟩, q2⟩
/-! ### own == beside data -/
def rEqAny (K : PySem.W.Frag) (C : Addr) (sp : Sp) : R2 := fun x y H Q => ∃ (a dx : Addr) (fs : List (Str × V)) (T : String), x = .ref a ∧ H a = some (.ins C dx fs) ∧ TyB K H y T ∧ T ≠ "bytes" ∧ PySem.W.notFirst K C (.type T) = true ∧ sp [x, y] H Q E0
theorem op_eqAny {C : Addr} {ps : List Str} {sp : Sp} {n : Nat} (c : OwnM X.prog X.w X.K X.mg X.base n C "__eq__" ps sp) (room : Room n X.A) : OpR X (compareOp .Eq) (rEqAny X.K C sp) := by
  obtain ⟨g, fd, hs, hf, F, bind⟩ := c.ex
  intro pins st σ h x y v u Z inv rx ry pre
  obtain ⟨a, dx, fs, T, rfl, ha, ty, hT, nf, z⟩ := pre
  obtain rfl : v = Value.ref a := rx
  obtain ⟨od, J⟩ := inst_of inv ha
  obtain ⟨m, hF⟩ := inv.fr
  have lk : PySem.W.Looks (model X.prog X.w) st.heap (typeOf u) (.type T) := by
    have ti := ty.is inv ry
    have flat : typeOf u = pure (.type T) → PySem.W.Looks (model X.prog X.w) st.heap (typeOf u) (.type T) := fun e A Q E s' k q => by rw [e]; exact wpAny_pure q
    have far : ∀ b, u = .ref b → PySem.W.Looks (model X.prog X.w) st.heap (typeOf u) (.type T) := by
      intro b e
      subst e
      obtain ⟨o, g1, g2⟩ := ti
      exact fun A Q E s' k q => wpAny_typeOf_ref (k _ _ g1) (by rw [g2]; exact q)
    cases ty with
    | non => cases (show u = Value.none from ry); exact flat ti
    | bl b => cases (show u = Value.bool b from ry); exact flat ti
    | int i => obtain ⟨t, rfl⟩ := (show ∃ t, u = Value.int i t from ry); exact flat ti
    | str x => obtain ⟨t, rfl⟩ := (show ∃ t, u = Value.str x t from ry); exact flat ti
    | byt b => exact absurd rfl hT
    | @lst b => exact far b ry
    | @tup b => exact far b ry
    | @dK b => exact far b ry
  rw [show compareOp .Eq (.ref a) u = richCompare .Eq (.ref a) u from rfl]
  refine PySem.W.cmp_K (op := .Eq) (tb := .type T) room.units0 hF inv.ok.mod.kin J lk nf hs hf ?_
  refine wpAny_mono (run0 (E' := X.xe) (xs := [.ref a, y]) F room inv.env0 bind inv (.cons rfl (.cons ry .nil)) z) (fun w s2 r => ?_) fun _ _ z => z
  obtain ⟨z', h2, inv2, rz, qz⟩ := r
  exact SlX.cmpback rz ⟨z', h2, inv2, rz, qz⟩
/-! ### C(e, ..) with defaults -/
structure CalleeID (P : Program) (w : World) (K : PySem.W.Frag) (mg : Str → Option Value) (base : Heap) (CX : CXT) (k : Nat) (C : Addr) (x : Str) (ps : List Str) (sp : Sp) (dvs : List V) : Prop where
  ex : ∃ (f : Addr) (fd : FuncData) (ds : List Value), FnOk P w K mg base CX k f fd ps sp ∧ Mk K C f ∧ mg x = some (.ref C) ∧ Binds K fd ps ds ∧ Vals dvs ds
theorem pe_makeD {CX : CXT} {k : Nat} {C : Addr} {x : Str} {ps : List Str} {sp : Sp} {dvs : List V} {E : XK} {e : Expr} {es : List Expr} {p pos : Pos} {t : TA} (c : CalleeID X.prog X.w X.K X.mg X.base CX k C x ps sp dvs) (room : Room (k + 1) X.A) (gl : Gl X x) (pass : Passes CX X E) (ha : PA X (e :: es) t)
    (d1 : (x == ("__debug__" : Str)) = false := by decide) (d2 : starEach (e :: es) X.env = (false, eval e X.env) :: starEach es X.env := by rfl) (d3 : (backTo pos (starEach es X.env)).any (·.1) = false := by rfl) :
    PE X (.Call (.Name x p) (e :: es) [] pos) (tMake C sp dvs E t) := by
  obtain ⟨f, fd, ds, F, M, hm, hb, hd⟩ := c.ex
  exact pe_make M F room gl hm hb hd pass ha d1 d2 d3
/-! ### f(k = v, ..) -/
theorem pe_callK0 {CX : CXT} {k : Nat} {x : Str} {ps ks : List Str} {sp : Sp} {gV : List V → List V → List V} {E : XK} {kws : List Keyword} {p pos : Pos} {tk : TA} (c : CalleeKw X.prog X.w X.K X.mg X.base CX k x ps sp 0 ks gV) (room : Room k X.A) (gl : Gl X x) (pass : Passes CX X E) (hkw : PK X kws tk)
    (d1 : (backToKw pos (keywordEach kws X.env)).all (·.1.isSome) = true := by rfl) (d2 : (backToKw pos (keywordEach kws X.env)).filterMap (·.1) = ks := by rfl) (d3 : (x == ("__debug__" : Str)) = false := by decide)
    (d4 : ((backTo pos (starEach [] X.env)).any (·.1) || (backToKw pos (keywordEach kws X.env)).any (·.1.isNone)) = false := by rfl) :
    PE X (.Call (.Name x p) [] kws pos) (fun σ H Q => tk σ H fun zs H2 => zs.length = ks.length ∧ sp (gV [] zs) H2 Q E) := by
  obtain ⟨f, fd, g, F, hm, hk, hb⟩ := c.ex
  refine ⟨fun pins st σ h Z inv pre => wpAny_Call_Name_kw (ld_glob inv gl hm ?_ d3)⟩
  refine PySem.W.callWith_KW0 (first := []) (h₀ := X.base) inv.ok.mod.kin hk d1 (thn (hkw.run pos pins st σ h _ inv pre) fun ws s2 r => ?_) d4
  obtain ⟨zs, h2, inv2, rel, l2, z2⟩ := r
  refine ⟨inv2.kIn, ?_⟩
  rw [d2]
  exact run_fnN (us := []) (vs := []) F room hb pass inv2 .nil rel rfl l2 z2
end
theorem r_callO {σ : L2.St} {H : Hp} {Q : VK} {C : Addr} {sp : Sp} {E : XK} {tf : TE} {t : TA} (q : tf σ H fun x H1 => ∃ (a dx : Addr) (fs : List (Str × V)), x = .ref a ∧ H1 a = some (.ins C dx fs) ∧ t σ H1 fun vs H2 => H2 a = some (.ins C dx fs) ∧ sp (x :: vs) H2 Q E) : tCallO C sp E tf t σ H Q := q
theorem r_chain {σ : L2.St} {H : Hp} {Q : VK} {r r' : R2} {ta tb tc : TE} (q : ta σ H fun x H1 => tb σ H1 fun y H2 => r x y H2 fun z H3 => ∃ k, z = .bl k ∧ if k = true then tc σ H3 fun w' H4 => r' y w' H4 Q else Q (.bl false) H3) : tChain r r' ta tb tc σ H Q := q
end KC
/-! ### own object op number -/
namespace KC
open PySem PySem.Spec PyProof.Rows L2 KB KG KO
section
variable {X : Cx}
structure OwnB (P : Program) (w : World) (K : PySem.W.Frag) (mg : Str → Option Value) (base : Heap) (CX : CXT) (k : Nat) (C : Addr) (op : Operator) (ps : List Str) (sp : Sp) : Prop where
  ex : ∃ (g : Addr) (fd : FuncData) (rc fo ro : Option Value), PySem.W.selfFirst K C = true ∧ PySem.W.findIn K (.ref C) (PySem.dunder op.info.2) = some (some (.ref g)) ∧ PySem.W.isFn K (.ref g) = true ∧ PySem.W.findIn K (.ref C) (dunderR op.info.2) = some rc ∧ (rc = none ∨ ∃ g : Addr, rc = some (.ref g)) ∧
    PySem.W.findIn K (.type "int") (PySem.dunder op.info.2) = some fo ∧ PySem.W.findIn K (.type "int") (dunderR op.info.2) = some ro ∧ PySem.W.subIn K (.type "int") (.ref C) = some false ∧ FnOk P w K mg base CX k g fd ps sp ∧ Binds K fd ps []
def rBinO (C : Addr) (sp : Sp) (E : XK) : R2 := fun x y H Q => ∃ (a dx : Addr) (fs : List (Str × V)) (i : Int), x = .ref a ∧ H a = some (.ins C dx fs) ∧ y = .int i ∧ sp [x, y] H Q E
theorem op_bin {CX : CXT} {E : XK} {C : Addr} {op : Operator} {ps : List Str} {sp : Sp} {n : Nat} (c : OwnB X.prog X.w X.K X.mg X.base CX n C op ps sp) (room : Room n X.A) (pass : Passes CX X E) : OpR X (binaryOp op) (rBinO C sp E) := by
  obtain ⟨g, fd, rc, fo, ro, c1, c2, c3, c4, c5, c6, c7, c8, F, bind⟩ := c.ex
  intro pins st σ h x y v u Z inv rx ry pre
  obtain ⟨a, dx, fs, i, rfl, ha, rfl, z⟩ := pre
  obtain rfl : v = Value.ref a := rx
  obtain ⟨tk, rfl⟩ := (show ∃ t, u = Value.int i t from ry)
  obtain ⟨od, J⟩ := inst_of inv ha
  obtain ⟨m, hF⟩ := inv.fr
  refine PySem.W.ksp_binT (T := "int") hF inv.ok.mod.kin J rfl c1 c2 c3 c4 c5 c6 c7 c8 ?_
  refine wpAny_mono (run_fn (us := [.ref a, .int i tk]) (vs := [.ref a, .int i]) F room bind .nil pass inv (.cons rfl (.cons ⟨tk, rfl⟩ .nil)) z) (fun w s2 r => ?_) fun _ _ z => z
  obtain ⟨z', h2, inv2, rz, qz⟩ := r
  exact SlX.cmpback rz ⟨z', h2, inv2, rz, qz⟩
end
end KC

/-! KBL: blends: the mathematics (natural numbers, bit by bit). -/
namespace KBL
/-- the word moved by s -/
def shN (w v : Nat) (s : Int) : Nat := if s < 0 then v / 2 ^ (0 - s).toNat else v * 2 ^ s.toNat % 2 ^ w
theorem bit_sh {w v : Nat} {s : Int} (hv : v < 2 ^ w) (p : Nat) : (shN w v s).testBit p = (decide (p < w) && (decide (s ≤ (p : Int)) && v.testBit ((p : Int) - s).toNat)) := by
  unfold shN
  by_cases h : s < 0
  · rw [if_pos h, Nat.testBit_div_two_pow, show p + (0 - s).toNat = ((p : Int) - s).toNat by omega, decide_eq_true (show s ≤ (p : Int) by omega), Bool.true_and]
    by_cases hp : p < w
    · rw [decide_eq_true hp, Bool.true_and]
    · rw [decide_eq_false hp, Bool.false_and]
      exact Nat.testBit_lt_two_pow (Nat.lt_of_lt_of_le hv (Nat.pow_le_pow_right (by decide) (by omega)))
  · rw [if_neg h, Nat.testBit_mod_two_pow, Nat.testBit_mul_two_pow]
    by_cases hs : s ≤ (p : Int)
    · rw [decide_eq_true (show s.toNat ≤ p by omega), decide_eq_true hs, show p - s.toNat = ((p : Int) - s).toNat by omega]
    · rw [decide_eq_false (show ¬ s.toNat ≤ p by omega), decide_eq_false hs]
      simp
theorem sh_lt {w v : Nat} {s : Int} (hv : v < 2 ^ w) : shN w v s < 2 ^ w := by
  unfold shN
  split
  · exact Nat.lt_of_le_of_lt (Nat.div_le_self _ _) hv
  · exact Nat.mod_lt _ (Nat.two_pow_pos w)
def onesN (w : Nat) : Nat := 2 ^ w - 1
theorem ones_lt (w : Nat) : onesN w < 2 ^ w := by
  have := Nat.two_pow_pos w
  unfold onesN
  omega
def keepN (w : Nat) (s : Int) (k : Nat) : Nat := shN w (onesN w) s &&& k
def shiftN (w : Nat) (s : Int) (k : Nat) : Int := if keepN w s k = 0 then 0 else s
/-- the place p has a source -/
def src (w : Nat) (s : Int) (k p : Nat) : Bool := decide (p < w) && (decide (s ≤ (p : Int)) && (decide ((p : Int) - s < w) && k.testBit p))
theorem bit_keep (w : Nat) (s : Int) (k p : Nat) : (keepN w s k).testBit p = src w s k p := by
  unfold keepN src
  rw [Nat.testBit_and, bit_sh (ones_lt w)]
  unfold onesN
  rw [Nat.testBit_two_pow_sub_one]
  by_cases h : s ≤ (p : Int)
  · rw [decide_eq_true h, show decide (((p : Int) - s).toNat < w) = decide ((p : Int) - s < w) from by
      by_cases q : (p : Int) - s < w
      · rw [decide_eq_true q, decide_eq_true (by omega)]
      · rw [decide_eq_false q, decide_eq_false (by omega)]]
    simp only [Bool.true_and, Bool.and_assoc]
  · rw [decide_eq_false h]
    simp
theorem keep_lt (w : Nat) (s : Int) (k : Nat) : keepN w s k < 2 ^ w := by
  unfold keepN
  rw [Nat.and_comm]
  exact Nat.and_lt_two_pow _ (sh_lt (ones_lt w))
/-- what a blend makes of a word -/
def ap (w : Nat) (s : Int) (k f v : Nat) : Nat := f ^^^ (keepN w s k &&& shN w v s)
theorem ap_lt {w : Nat} {s : Int} {k f v : Nat} (hf : f < 2 ^ w) (hv : v < 2 ^ w) : ap w s k f v < 2 ^ w := Nat.xor_lt_two_pow hf (Nat.and_lt_two_pow _ (sh_lt hv))
theorem bit_ap {w : Nat} {s : Int} {k f v : Nat} (hv : v < 2 ^ w) (p : Nat) : (ap w s k f v).testBit p = (f.testBit p ^^ (src w s k p && v.testBit ((p : Int) - s).toNat)) := by
  unfold ap
  rw [Nat.testBit_xor, Nat.testBit_and, bit_keep, bit_sh hv]
  unfold src
  by_cases h1 : p < w <;> by_cases h2 : s ≤ (p : Int) <;> by_cases h3 : (p : Int) - s < w <;> simp [h1, h2, h3]
/-- the same by the numbers that are kept -/
theorem ap_norm (w : Nat) (s : Int) (k f v : Nat) : f ^^^ (keepN w s k &&& shN w v (shiftN w s k)) = ap w s k f v := by
  unfold ap shiftN
  by_cases h : keepN w s k = 0
  · rw [if_pos h, h, Nat.zero_and, Nat.zero_and]
  · rw [if_neg h]
theorem ap_zero (w : Nat) (s : Int) (k f : Nat) : ap w s k f 0 = f := by
  refine Nat.eq_of_testBit_eq fun p => ?_
  rw [bit_ap (Nat.two_pow_pos w), Nat.zero_testBit, Bool.and_false, Bool.xor_false]
theorem two_lt {j w : Nat} (h : j < w) : 2 ^ j < 2 ^ w := Nat.pow_lt_pow_right (by decide) h
theorem bit_two {w : Nat} {s : Int} {k f j : Nat} (h : j < w) (p : Nat) : (ap w s k f (2 ^ j)).testBit p = (f.testBit p ^^ (src w s k p && decide ((p : Int) - s = j))) := by
  rw [bit_ap (two_lt h), Nat.testBit_two_pow]
  unfold src
  by_cases h2 : s ≤ (p : Int)
  · have e : decide (j = ((p : Int) - s).toNat) = decide ((p : Int) - s = j) := by
      by_cases q : (p : Int) - s = j
      · rw [decide_eq_true q, decide_eq_true (by omega)]
      · rw [decide_eq_false q, decide_eq_false (by omega)]
    rw [e]
  · simp [h2]
theorem src_of {w : Nat} {s : Int} {k p : Nat} (h : src w s k p = true) : p < w ∧ s ≤ (p : Int) ∧ (p : Int) - s < w := by
  unfold src at h
  simp only [Bool.and_eq_true, decide_eq_true_eq] at h
  exact ⟨h.1, h.2.1, h.2.2.1⟩
/-- where two agree at the single bits below n, a source of the one is that of the other -/
theorem src_same {w n : Nat} {s s' : Int} {k k' f f' : Nat} (hf : f = f') (h : ∀ j, j < n → ap w s k f (2 ^ j) = ap w s' k' f' (2 ^ j)) (hn : n ≤ w) {p : Nat} (hp : src w s k p = true) (hj : (p : Int) - s < n) : src w s' k' p = true ∧ (p : Int) - s' = (p : Int) - s := by
  obtain ⟨h1, h2, h3⟩ := src_of hp
  obtain ⟨j, ej⟩ : ∃ j : Nat, (p : Int) - s = j := ⟨((p : Int) - s).toNat, by omega⟩
  have hjn : j < n := by omega
  have e := congrArg (fun x => Nat.testBit x p) (h j hjn)
  simp only [bit_two (show j < w by omega), hp, hf] at e
  rw [decide_eq_true ej] at e
  cases hq : src w s' k' p with
  | false => rw [hq] at e; simp at e
  | true =>
    rw [hq] at e
    by_cases z : (p : Int) - s' = j
    · exact ⟨rfl, by omega⟩
    · rw [decide_eq_false z] at e
      simp at e
theorem bits_below {v n i : Nat} (hv : v < 2 ^ n) (h : v.testBit i = true) : i < n := by
  rcases Nat.lt_or_ge i n with z | z
  · exact z
  · rw [Nat.testBit_lt_two_pow (Nat.lt_of_lt_of_le hv (Nat.pow_le_pow_right (by decide) z))] at h
    cases h
/-- .. then they agree at all words below 2 ^ n -/
theorem agree {w n : Nat} {s s' : Int} {k k' f f' : Nat} (hf : f = f') (h : ∀ j, j < n → ap w s k f (2 ^ j) = ap w s' k' f' (2 ^ j)) (hn : n ≤ w) {v : Nat} (hv : v < 2 ^ n) : ap w s k f v = ap w s' k' f' v := by
  have hvw : v < 2 ^ w := Nat.lt_of_lt_of_le hv (Nat.pow_le_pow_right (by decide) hn)
  have one : ∀ {s s' : Int} {k k' f f' : Nat}, f = f' → (∀ j, j < n → ap w s k f (2 ^ j) = ap w s' k' f' (2 ^ j)) → ∀ p, (src w s k p && v.testBit ((p : Int) - s).toNat) = true → (src w s' k' p && v.testBit ((p : Int) - s').toNat) = true := by
    intro s s' k k' f f' hf h p hp
    obtain ⟨h1, h2⟩ := Bool.and_eq_true_iff.mp hp
    have h3 := bits_below hv h2
    obtain ⟨g1, g2⟩ := src_same hf h hn h1 (by have := (src_of h1).2.1; omega)
    rw [g1, g2, h2]
    rfl
  refine Nat.eq_of_testBit_eq fun p => ?_
  rw [bit_ap hvw, bit_ap hvw, hf]
  congr 1
  cases e : (src w s k p && v.testBit ((p : Int) - s).toNat) with
  | true => exact (one hf h p e).symm
  | false =>
    cases e' : (src w s' k' p && v.testBit ((p : Int) - s').toNat) with
    | false => rfl
    | true =>
      have := one hf.symm (fun j hj => (h j hj).symm) p e'
      rw [e] at this
      cases this
/-- equal at 0 and at the single bits: the numbers are equal -/
theorem norm_eq {w : Nat} {s s' : Int} {k k' f f' : Nat} (hf : f = f') (h : ∀ j, j < w → ap w s k f (2 ^ j) = ap w s' k' f' (2 ^ j)) : keepN w s k = keepN w s' k' ∧ shiftN w s k = shiftN w s' k' := by
  have up : ∀ {p}, src w s k p = true → src w s' k' p = true ∧ (p : Int) - s' = (p : Int) - s := fun {p} hp => src_same hf h (Nat.le_refl _) hp (src_of hp).2.2
  have dn : ∀ {p}, src w s' k' p = true → src w s k p = true ∧ (p : Int) - s = (p : Int) - s' := fun {p} hp => src_same hf.symm (fun j hj => (h j hj).symm) (Nat.le_refl _) hp (src_of hp).2.2
  have ek : keepN w s k = keepN w s' k' := by
    refine Nat.eq_of_testBit_eq fun p => ?_
    rw [bit_keep, bit_keep]
    cases e : src w s k p with
    | true => exact (up e).1.symm
    | false =>
      cases e' : src w s' k' p with
      | false => rfl
      | true => have := (dn e').1; rw [e] at this; cases this
  refine ⟨ek, ?_⟩
  unfold shiftN
  rw [← ek]
  by_cases z : keepN w s k = 0
  · rw [if_pos z, if_pos z]
  · rw [if_neg z, if_neg z]
    have : ∃ p, (keepN w s k).testBit p = true := by
      rcases Classical.em (∃ p, (keepN w s k).testBit p = true) with g | g
      · exact g
      · refine absurd (Nat.eq_of_testBit_eq fun p => ?_) z
        rw [Nat.zero_testBit]
        cases e : (keepN w s k).testBit p with
        | false => rfl
        | true => exact absurd ⟨p, e⟩ g
    obtain ⟨p, hp⟩ := this
    rw [bit_keep] at hp
    have := (up hp).2
    omega
theorem norm_ap {w : Nat} {s s' : Int} {k k' f f' : Nat} (hk : keepN w s k = keepN w s' k') (hs : shiftN w s k = shiftN w s' k') (hf : f = f') (v : Nat) : ap w s k f v = ap w s' k' f' v := by
  rw [← ap_norm w s k f v, ← ap_norm w s' k' f' v, hk, hs, hf]
/-! ### where two part -/
def parts (F G : Nat → Nat) (v : Nat) : Bool := decide (F v ≠ G v)
def bits (w : Nat) : List Nat := (List.range w).map (2 ^ ·)
/-- the least word of 0 and the single bits at which F and G part -/
def parting (w : Nat) (F G : Nat → Nat) : Option Nat := (0 :: bits w).find? (parts F G)
theorem parting_none {w : Nat} {F G : Nat → Nat} : parting w F G = none ↔ F 0 = G 0 ∧ ∀ j, j < w → F (2 ^ j) = G (2 ^ j) := by
  unfold parting bits parts
  rw [List.find?_eq_none]
  constructor
  · intro h
    refine ⟨?_, fun j hj => ?_⟩
    · have := h 0 (List.mem_cons_self ..)
      simpa using this
    · have := h (2 ^ j) (List.mem_cons_of_mem _ (List.mem_map.mpr ⟨j, List.mem_range.mpr hj, rfl⟩))
      simpa using this
  · rintro ⟨h0, h⟩ x hx
    rcases List.mem_cons.mp hx with rfl | hx
    · simp [h0]
    · obtain ⟨j, hj, rfl⟩ := List.mem_map.mp hx
      simp [h j (List.mem_range.mp hj)]
theorem find_range {q : Nat → Bool} : ∀ (n : Nat) (m : Nat), m < n → q m = true → (∀ i, i < m → q i = false) → (List.range n).find? q = some m := by
  intro n m hm h1 h2
  induction n with
  | zero => omega
  | succ n ih =>
    rw [List.range_succ, List.find?_append]
    by_cases e : m < n
    · rw [ih e]
      rfl
    · have e' : m = n := by omega
      subst e'
      have no : (List.range m).find? q = none := by
        rw [List.find?_eq_none]
        intro x hx
        rw [h2 x (List.mem_range.mp hx)]
        decide
      rw [no]
      simp [List.find?, h1]
theorem parting_some {w : Nat} {F G : Nat → Nat} {d : Nat} (h : parting w F G = some d) : F d ≠ G d ∧ (d = 0 ∨ ∃ j, j < w ∧ d = 2 ^ j ∧ F 0 = G 0 ∧ ∀ i, i < j → F (2 ^ i) = G (2 ^ i)) := by
  have hp : parts F G d = true := List.find?_some h
  refine ⟨by simpa [parts] using hp, ?_⟩
  unfold parting at h
  rw [List.find?_cons] at h
  cases e : parts F G 0 with
  | true => rw [e] at h; exact .inl (Option.some.inj h).symm
  | false =>
    rw [e] at h
    have h0 : F 0 = G 0 := by simpa [parts] using e
    have h' : (bits w).find? (parts F G) = some d := h
    unfold bits at h'
    rw [List.find?_map] at h'
    cases e2 : (List.range w).find? (parts F G ∘ fun x => 2 ^ x) with
    | none => rw [e2] at h'; cases h'
    | some j =>
      rw [e2] at h'
      have hd : 2 ^ j = d := Option.some.inj h'
      obtain ⟨as, bs, e3, e4⟩ := List.find?_eq_some_iff_append.mp e2 |>.2
      refine .inr ⟨j, List.mem_range.mp (List.mem_of_find?_eq_some e2), hd.symm, h0, fun i hi => ?_⟩
      have : i ∈ as := by
        have hl : as.length = j := by
          have := congrArg (fun l => l[as.length]?) e3
          simp at this
          have h5 : as.length < w := by
            have := congrArg List.length e3
            simp at this
            omega
          simp [h5] at this
          exact this
        have hi2 : i < as.length := by omega
        have q := congrArg (fun l => l[i]?) e3
        have hiw : i < w := by
          have := congrArg List.length e3
          simp at this
          omega
        rw [show (as ++ j :: bs)[i]? = as[i]? from List.getElem?_append_left hi2, List.getElem?_range hiw] at q
        exact List.mem_of_getElem? q.symm
      have := e4 i this
      simpa [parts] using this
/-- two blends: all words below the parting word agree -/
theorem below {w : Nat} {s s' : Int} {k k' f f' d v : Nat} (h : parting w (ap w s k f) (ap w s' k' f') = some d) (hv : v < d) : ap w s k f v = ap w s' k' f' v := by
  rcases (parting_some h).2 with rfl | ⟨j, hj, rfl, h0, h1⟩
  · omega
  · rw [ap_zero, ap_zero] at h0
    exact agree h0 h1 (Nat.le_of_lt hj) hv
/-- found among all words -/
theorem parting_all {w : Nat} {s s' : Int} {k k' f f' : Nat} : (List.range (2 ^ w)).find? (parts (ap w s k f) (ap w s' k' f')) = parting w (ap w s k f) (ap w s' k' f') := by
  cases e : parting w (ap w s k f) (ap w s' k' f') with
  | none =>
    obtain ⟨h0, h1⟩ := parting_none.mp e
    rw [ap_zero, ap_zero] at h0
    rw [List.find?_eq_none]
    intro x hx
    simp [parts, agree h0 h1 (Nat.le_refl w) (List.mem_range.mp hx)]
  | some d =>
    have hd := parting_some e
    have dl : d < 2 ^ w := by
      rcases hd.2 with rfl | ⟨j, hj, rfl, _⟩
      · exact Nat.two_pow_pos w
      · exact two_lt hj
    refine find_range _ d dl (by simpa [parts] using hd.1) fun i hi => ?_
    simp [parts, below e hi]
/-- the numbers are equal just where there is no such word -/
theorem same_iff {w : Nat} {s s' : Int} {k k' f f' : Nat} : parting w (ap w s k f) (ap w s' k' f') = none ↔ (shiftN w s k = shiftN w s' k' ∧ keepN w s k = keepN w s' k' ∧ f = f') := by
  rw [parting_none, ap_zero, ap_zero]
  constructor
  · rintro ⟨h0, h1⟩
    obtain ⟨g1, g2⟩ := norm_eq h0 h1
    exact ⟨g2, g1, h0⟩
  · rintro ⟨h1, h2, h3⟩
    exact ⟨h3, fun j _ => norm_ap h2 h1 h3 _⟩
end KBL
/-! ### numbers of the model -/
namespace KBL
open PySem
theorem bAnd (a b : Nat) : Builtin.bitAnd (a : Int) (b : Int) = ((a &&& b : Nat) : Int) := by
  rw [PyProof.Rows.bitAnd_pp (by omega) (by omega)]
  rfl
theorem xor_and_add (a : Nat) : ∀ b : Nat, (a ^^^ b) + 2 * (a &&& b) = a + b := by
  induction a using Nat.strongRecOn with
  | _ a ih =>
    intro b
    by_cases h : a = 0
    · subst h; simp
    · have e := ih (a / 2) (by omega) (b / 2)
      have x1 := Nat.xor_mod_two_pow (a := a) (b := b) (n := 1)
      have x2 := Nat.and_mod_two_pow (a := a) (b := b) (n := 1)
      have x3 := Nat.xor_div_two_pow (a := a) (b := b) (n := 1)
      have x4 := Nat.and_div_two_pow (a := a) (b := b) (n := 1)
      simp only [Nat.pow_one] at x1 x2 x3 x4
      have da := Nat.div_add_mod a 2
      have db := Nat.div_add_mod b 2
      have dx := Nat.div_add_mod (a ^^^ b) 2
      have dy := Nat.div_add_mod (a &&& b) 2
      rw [x1, x3] at dx
      rw [x2, x4] at dy
      rcases Nat.mod_two_eq_zero_or_one a with ha | ha <;> rcases Nat.mod_two_eq_zero_or_one b with hb | hb <;> rw [ha, hb] at dx dy <;> rw [ha] at da <;> rw [hb] at db <;> simp at dx dy <;> omega
theorem bXor (a b : Nat) : Builtin.bitXor (a : Int) (b : Int) = ((a ^^^ b : Nat) : Int) := by
  rw [PyProof.Rows.bitXor_and, bAnd]
  have := xor_and_add a b
  omega
theorem ofShr (v : Nat) (j : Int) : (v : Int) / 2 ^ j.toNat = ((v / 2 ^ j.toNat : Nat) : Int) := by
  rw [Int.natCast_ediv, Int.natCast_pow]
  rfl
theorem ofShl (v : Nat) (j : Int) : (v : Int) * 2 ^ j.toNat = ((v * 2 ^ j.toNat : Nat) : Int) := by
  rw [Int.natCast_mul, Int.natCast_pow]
  rfl
theorem shl_and (w v : Nat) (j : Int) : Builtin.bitAnd ((v : Int) * 2 ^ j.toNat) ((onesN w : Nat) : Int) = ((v * 2 ^ j.toNat % 2 ^ w : Nat) : Int) := by
  rw [ofShl, bAnd]
  unfold onesN
  rw [Nat.and_two_pow_sub_one_eq_mod]
end KBL
/-! ### texts of numbers -/
namespace KBL
open PySem
def dg (i : Int) : List Nat := (Str.ofString (toString i)).cps.toList
theorem dg_is (i : Int) : dg i = (toString i).toList.map Char.toNat := PyProof.Rows.signs_ofString _
theorem map_char : ∀ {a b : List Char}, a.map Char.toNat = b.map Char.toNat → a = b
  | [], [], _ => rfl
  | [], _ :: _, h => by cases h
  | _ :: _, [], h => by cases h
  | x :: a, y :: b, h => by
    rw [List.map_cons, List.map_cons] at h
    injection h with h1 h2
    have e : x = y := Char.toNat_inj.mp h1
    rw [e, map_char h2]
theorem dg_inj {i j : Int} (h : dg i = dg j) : i = j := by
  rw [dg_is, dg_is] at h
  have e := map_char h
  rw [String.toList_inj] at e
  rw [Int.toString_eq_repr, Int.toString_eq_repr] at e
  exact Int.repr_inj.mp e
theorem nat_no (n : Nat) : ∀ c ∈ (Nat.repr n).toList, c.toNat ≠ 44 := by
  intro c hc
  rw [Nat.toList_repr] at hc
  have h := Nat.isDigit_of_mem_toDigits (by decide) (by decide) hc
  simp only [Char.isDigit, Bool.and_eq_true, decide_eq_true_eq] at h
  have h2 : 48 ≤ c.val.toNat := by simpa using UInt32.le_iff_toNat_le.mp h.1
  have e : c.val.toNat = c.toNat := rfl
  omega
theorem dg_no (i : Int) : 44 ∉ dg i := by
  rw [dg_is]
  intro hc
  obtain ⟨c, hc, e⟩ := List.mem_map.mp hc
  rw [Int.toString_eq_repr, Int.repr_eq_if] at hc
  split at hc
  · exact nat_no _ c hc e
  · rw [String.toList_append, List.mem_append] at hc
    rcases hc with hc | hc
    · have : c = '-' := by simpa using hc
      subst this
      exact absurd e (by decide)
    · exact nat_no _ c hc e
theorem cut44 : ∀ {a b x y : List Nat}, 44 ∉ a → 44 ∉ b → a ++ 44 :: x = b ++ 44 :: y → a = b ∧ x = y
  | [], [], _, _, _, _, h => by
    injection h with _ h
    exact ⟨rfl, h⟩
  | [], c :: b, _, _, _, hb, h => by
    injection h with h1 _
    exact absurd (by rw [← h1]; exact List.mem_cons_self ..) hb
  | c :: a, [], _, _, ha, _, h => by
    injection h with h1 _
    exact absurd (by rw [h1]; exact List.mem_cons_self ..) ha
  | c :: a, d :: b, x, y, ha, hb, h => by
    injection h with h1 h2
    obtain ⟨g1, g2⟩ := cut44 (fun z => ha (List.mem_cons_of_mem _ z)) (fun z => hb (List.mem_cons_of_mem _ z)) h2
    exact ⟨by rw [h1, g1], g2⟩
def bText (w s k f : Int) : Str := Str.empty ++ "Blend(" ++ toString w ++ ", " ++ toString s ++ ", " ++ toString k ++ ", " ++ toString f ++ ")"
theorem bText_list (w s k f : Int) : (bText w s k f).cps.toList = [66, 108, 101, 110, 100, 40] ++ (dg w ++ 44 :: (32 :: dg s ++ 44 :: (32 :: dg k ++ 44 :: (32 :: dg f ++ [41])))) := by
  unfold bText dg
  simp only [Str.cps_append, Array.toList_append, List.append_assoc]
  rfl
theorem no32 {l : List Nat} (h : 44 ∉ l) : 44 ∉ (32 :: l) := fun z => (List.mem_cons.mp z).elim (fun e => by cases e) h
theorem bText_inj {w s k f w' s' k' f' : Int} (h : bText w s k f = bText w' s' k' f') : w = w' ∧ s = s' ∧ k = k' ∧ f = f' := by
  have e := congrArg (fun x : Str => x.cps.toList) h
  simp only [bText_list] at e
  have e := List.append_cancel_left e
  obtain ⟨e1, e⟩ := cut44 (dg_no w) (dg_no w') e
  obtain ⟨e2, e⟩ := cut44 (a := 32 :: dg s) (b := 32 :: dg s') (no32 (dg_no s)) (no32 (dg_no s')) e
  obtain ⟨e3, e⟩ := cut44 (a := 32 :: dg k) (b := 32 :: dg k') (no32 (dg_no k)) (no32 (dg_no k')) e
  have e4 := List.append_cancel_right e
  injection e2 with _ e2
  injection e3 with _ e3
  injection e4 with _ e4
  exact ⟨dg_inj e1, dg_inj e2, dg_inj e3, dg_inj e4⟩
theorem num_len {i : Int} (h : i.natAbs.log2 < 1920) : (Str.ofString (toString i)).length ≤ 1921 := PyProof.Rows.int_text_len_1921 h
end KBL
namespace KBL
open PySem
def b2n (b : Bool) : Nat := if b then 1 else 0
theorem bit_one (n p : Nat) : Builtin.bitAnd ((n : Int) / 2 ^ p) 1 = ((b2n (n.testBit p) : Nat) : Int) := by
  rw [show ((n : Int) / 2 ^ p) = ((n / 2 ^ p : Nat) : Int) by rw [Int.natCast_ediv, Int.natCast_pow]; rfl]
  rw [show (1 : Int) = ((1 : Nat) : Int) from rfl, bAnd, Nat.and_one_is_mod, Nat.testBit_eq_decide_div_mod_eq]
  unfold b2n
  have := Nat.mod_two_eq_zero_or_one (n / 2 ^ p)
  rcases this with h | h <;> rw [h] <;> rfl
theorem b2n_one (b : Bool) : (((b2n b : Nat) : Int) = 1) ↔ b = true := by
  cases b <;> decide
theorem b2n_xor (a b : Bool) : Builtin.bitXor ((b2n a : Nat) : Int) ((b2n b : Nat) : Int) = ((b2n (a ^^ b) : Nat) : Int) := by
  rw [bXor]
  cases a <;> cases b <;> rfl
theorem mod_next (x i : Nat) : x % 2 ^ (i + 1) = x % 2 ^ i + b2n (x.testBit i) * 2 ^ i := by
  rw [Nat.mod_pow_succ, Nat.testBit_eq_decide_div_mod_eq]
  unfold b2n
  have := Nat.mod_two_eq_zero_or_one (x / 2 ^ i)
  rcases this with h | h <;> rw [h] <;> simp
end KBL

/-! KD: comprehensions whose elements are made. -/
namespace KD
open PySem PySem.Spec PyProof.Rows L2 KB KG KO
/-- all but lists is kept -/
def SameN (H H' : Hp) : Prop := ∀ a o, H a = some o → (∀ xs, o ≠ .lst xs) → H' a = some o
theorem SameN.of {H H' : Hp} (s : Same H H') : SameN H H' := fun a o e _ => s a o e
theorem SameN.trans {H H' H2 : Hp} (s : SameN H H') (t : SameN H' H2) : SameN H H2 := fun a o e n => t a o (s a o e n) n
theorem SameN.tup {H H' : Hp} {a : Addr} {xs : List V} (s : SameN H H') (h : H a = some (.tup xs)) : H' a = some (.tup xs) := s a _ h (fun _ z => by cases z)
theorem SameN.ins {H H' : Hp} {a C dx : Addr} {fs : List (Str × V)} (s : SameN H H') (h : H a = some (.ins C dx fs)) : H' a = some (.ins C dx fs) := s a _ h (fun _ z => by cases z)
/-- a comprehension without a test; R i v H: what the i-th element is -/
theorem lc_made {J : It} {n : Nat} {G : Hp → Prop} {Y : Nat → Hp → V → Hp → Prop} (wk : Walk J n G Y) {g : TG} {tt : TT} {te : TE} {vs : List Nat} {σ : L2.St} {H1 : Hp} {Q : VK} (R : Nat → V → Hp → Prop) (hn : n ≤ 10000)
    (up : ∀ i v H H', R i v H → SameN H H' → R i v H') (hG : ∀ H', Same H1 H' → G H')
    (hs : ∀ i x H H' (N : V → Hp → Prop) (B : Hp → Prop), i < n → Same H1 H → Y i H x H' → (∀ v H2, Same H H2 → R i v H2 → N v H2) → g x (wipe σ vs) H' fun σ2 H2 => wipe σ2 vs = wipe σ vs ∧ tt σ2 H2 fun b H3 => if b = true then te σ2 H3 N else B H3)
    (hd : ∀ D H' (ys : List V), H1 D = none → Same H1 H' → H' D = some (.lst ys) → ys.length = n → (∀ i v, ys[i]? = some v → R i v H') → Q (.ref D) H') :
    LcW J g tt te vs σ H1 Q := by
  intro D hD
  refine lc_it wk (Qd := fun H => Q (.ref D) H) (fun i H => Same H1 H ∧ ∃ ys : List V, H D = some (.lst ys) ∧ ys.length = i ∧ ∀ j v, ys[j]? = some v → R j v H) ⟨same_new hD, [], upd_same, rfl, fun j v e => by simp at e⟩ (fun i H _ p => hG H p.1) (fun i x H H' hi p y => ?_) (fun H p => ?_)
  · obtain ⟨sm, ys, hy, hl, hR⟩ := p
    refine hs i x H H' _ _ hi sm y (fun v H2 s2 r => ?_)
    have kp : ∀ zs, SameN H2 (upd H2 D (.lst zs)) := fun zs a o e no => by
      rw [upd_ne (fun z => no ys (by rw [z, s2 _ _ hy] at e; exact (Option.some.inj e).symm))]
      exact e
    refine ⟨ys, s2 _ _ hy, small1000' (by omega), same_mut (sm.trans s2) hD, ys ++ [v], upd_same, by simp [hl], fun j w e => ?_⟩
    by_cases hj : j < ys.length
    · rw [List.getElem?_append_left hj] at e
      exact up _ _ _ _ (hR j w e) ((SameN.of s2).trans (kp _))
    · rw [List.getElem?_append_right (by omega)] at e
      have h0 : j - ys.length = 0 := by
        cases z : j - ys.length with
        | zero => rfl
        | succ m => rw [z] at e; simp at e
      rw [h0] at e
      have ew : v = w := Option.some.inj e
      subst ew
      have ej : j = i := by omega
      subst ej
      exact up _ _ _ _ r (kp _)
  · obtain ⟨sm, ys, hy, hl, hR⟩ := p
    exact hd D H ys hD sm hy hl hR
/-- a comprehension whose test is never true -/
theorem lc_none {J : It} {n : Nat} {G : Hp → Prop} {Y : Nat → Hp → V → Hp → Prop} (wk : Walk J n G Y) {g : TG} {tt : TT} {te : TE} {vs : List Nat} {σ : L2.St} {H1 : Hp} {Q : VK}
    (hG : ∀ H', Same H1 H' → G H')
    (hs : ∀ i x H H' (B : Hp → Prop) (N : V → Hp → Prop), i < n → Same H1 H → Y i H x H' → (∀ H2, Same H H2 → B H2) → g x (wipe σ vs) H' fun σ2 H2 => wipe σ2 vs = wipe σ vs ∧ tt σ2 H2 fun b H3 => if b = true then te σ2 H3 N else B H3)
    (hd : ∀ D H', H1 D = none → Same H1 H' → H' D = some (.lst []) → Q (.ref D) H') :
    LcW J g tt te vs σ H1 Q := by
  intro D hD
  refine lc_it wk (Qd := fun H => Q (.ref D) H) (fun i H => Same H1 H ∧ H D = some (.lst [])) ⟨same_new hD, upd_same⟩ (fun i H _ p => hG H p.1) (fun i x H H' hi p y => ?_) (fun H p => hd D H hD p.1 p.2)
  exact hs i x H H' _ _ hi p.1 y (fun H2 s2 => ⟨p.1.trans s2, s2 _ _ p.2⟩)
theorem r_yes {σ : L2.St} {H : Hp} {QT : Bool → Hp → Prop} (q : QT true H) : tYes σ H QT := q
/-! ### what repr shows -/
open KY
theorem fit_int {tag : Str} (ht : (reprText tag).length ≤ 100) {i : Int} (h : i.natAbs.log2 < 1920) : Fit tag (.sc (.int i)) := by
  have l := KBL.num_len h
  have sl2 : 10000 ≤ sizeLine := by decide
  refine ⟨?_, ?_, ?_⟩
  · simp only [Dt.d, Sc.d, PyData.showable]
    exact decide_eq_true h
  · simp [KY.pairD, PyData.depth, PyData.depthAll, Dt.d, Sc.d]
  · simp only [KY.pairD, PyData.shown, PyData.shownAll, Dt.d, Sc.d, listText, textFrom, Str.length_append]
    have c1 : (Str.ofString "[").length = 1 := by decide +kernel
    have c2 : (Str.ofString "]").length = 1 := by decide +kernel
    have c3 : (Str.ofString (if 0 > 0 then ", " else "")).length = 0 := by decide +kernel
    have c4 : (Str.ofString (if 0 + 1 > 0 then ", " else "")).length = 2 := by decide +kernel
    omega
def fitB (tag : Str) (t : Dt) : Bool := PyData.showable t.d && decide ((KY.pairD tag t).depth ≤ 60) && decide ((KY.pairD tag t).shown.length ≤ 1000)
theorem fit_of {tag : Str} {t : Dt} (h : fitB tag t = true) : Fit tag t := by
  unfold fitB at h
  simp only [Bool.and_eq_true, decide_eq_true_eq] at h
  exact ⟨h.1.1, h.1.2, Nat.le_trans h.2 (by decide)⟩
theorem strOk_of (s : String) : PyData.strOk (Str.ofString s) = true := by
  unfold PyData.strOk
  rw [Str.ofString_eq_toList]
  rw [List.all_toArray, List.all_eq_true]
  intro x hx
  obtain ⟨c, _, rfl⟩ := List.mem_map.mp hx
  have h := c.valid
  have e : c.toNat = c.val.toNat := rfl
  refine decide_eq_true ?_
  rw [e]
  rcases h with h | h
  · have : c.val.toNat < 0xd800 := h
    omega
  · have : c.val.toNat < 0x110000 := h.2
    omega
theorem strOk_app (a b : Str) : PyData.strOk (a ++ b) = (PyData.strOk a && PyData.strOk b) := by
  unfold PyData.strOk
  show (a.cps ++ b.cps).all _ = _
  rw [Array.all_append]
theorem ok_intText {tag : Str} (ht : PyData.strOk (reprText tag) = true) (i : Int) : PyData.strOk (KY.pairD tag (.sc (.int i))).shown = true := by
  simp only [KY.pairD, PyData.shown, PyData.shownAll, Dt.d, Sc.d, listText, textFrom, strOk_app, strOk_of, ht, Bool.and_self]
/-! ### f(k = v, ..), its reading named -/
section
variable {X : Cx}
def tCK (ks : List Str) (sp : Sp) (gV : List V → List V → List V) (E : XK) (tk : TA) : TE := fun σ H Q => tk σ H fun zs H2 => zs.length = ks.length ∧ sp (gV [] zs) H2 Q E
theorem pe_callK {CX : CXT} {k : Nat} {x : Str} {ps ks : List Str} {sp : Sp} {gV : List V → List V → List V} {E : XK} {kws : List Keyword} {p pos : Pos} {tk : TA} (c : CalleeKw X.prog X.w X.K X.mg X.base CX k x ps sp 0 ks gV) (room : Room k X.A) (gl : Gl X x) (pass : Passes CX X E) (hkw : PK X kws tk)
    (d1 : (backToKw pos (keywordEach kws X.env)).all (·.1.isSome) = true := by rfl) (d2 : (backToKw pos (keywordEach kws X.env)).filterMap (·.1) = ks := by rfl) (d3 : (x == ("__debug__" : Str)) = false := by decide)
    (d4 : ((backTo pos (starEach [] X.env)).any (·.1) || (backToKw pos (keywordEach kws X.env)).any (·.1.isNone)) = false := by rfl) :
    PE X (.Call (.Name x p) [] kws pos) (tCK ks sp gV E tk) := KC.pe_callK0 c room gl pass hkw d1 d2 d3 d4
theorem r_ck {σ : L2.St} {H : Hp} {Q : VK} {ks : List Str} {sp : Sp} {gV : List V → List V → List V} {E : XK} {tk : TA} (q : tk σ H fun zs H2 => zs.length = ks.length ∧ sp (gV [] zs) H2 Q E) : tCK ks sp gV E tk σ H Q := q
end
end KD

/-! KR: own object beside data of any type under &, |, ^, <<, >>, on either side. -/
namespace KR
open PySem PySem.Spec PyProof.Rows L2 KB KG KO KY
section
variable {prog : Program} {w : World} {A : Around} {E : Value → Shared → Prop} {s : Shared} {K : PySem.W.Frag} {x C L g g2 : Addr} {hb : Heap} {m : Str → Option Value} {ox : Obj} {od : Option Obj} {T : String}
open PySem.W in
/-- o op v -/
theorem bin_left {op : Operator} {v : Value} {fo ro rc : Option Value} {Z : Value → Shared → Prop} (F : Fr hb L s.heap m) (X0 : K.In hb) (I : InstAt s.heap x ox C od) (lv : Looks (model prog w) s.heap (typeOf v) (.type T)) (c1 : selfFirst K C = true)
    (c2 : findIn K (.ref C) (PySem.dunder op.info.2) = some (some (.ref g))) (c3 : isFn K (.ref g) = true) (c4 : findIn K (.ref C) (dunderR op.info.2) = some rc) (c5 : rc = none ∨ ∃ z : Addr, rc = some (.ref z))
    (c6 : findIn K (.type T) (PySem.dunder op.info.2) = some fo) (c7 : findIn K (.type T) (dunderR op.info.2) = some ro) (c8 : subIn K (.type T) (.ref C) = some false)
    (go : wpAny (model prog w) A (call (.ref g) [.ref x, v]) (PySem.W.CmpBack Z) E s) : wpAny (model prog w) A (binaryOp op (.ref x) v) Z E s := by
  have XK := X0.keeps F.keep
  obtain ⟨cd, rest, hcd, hmro⟩ := ksp_first c1
  rcases oi : op.info with ⟨sy, n1⟩
  rw [oi] at c2 c4 c6 c7
  dsimp only at c2 c4 c6 c7
  have once := ksp_try XK I c2 c3 go
  obtain ⟨sh, sg, sd, stk, sos⟩ := s
  have k1 : Looks (model prog w) sh (typeOf (.ref x)) (.ref C) := I.type
  have k2 : Looks (model prog w) sh (typeOf v) (.type T) := lv
  have k3 : Looks (model prog w) sh (fillsNumberSlot (.ref C) n1) true := fills_K XK hcd hmro c2
  have k4 : Looks (model prog w) sh (fillsNumberSlot (.type T) n1) _ := ksp_fillsT XK c6 c7
  have k5 : Looks (model prog w) sh (isSubtype (.type T) (.ref C)) false := looks_subIn XK c8
  have k6 : Looks (model prog w) sh (numberSlotInPython (.ref C) n1) true := ksp_inPy XK c2 c4 c5
  have k7 : Looks (model prog w) sh (numberSlotInPython (.type T) n1) false := Looks.of_pure rfl
  have k8 : Looks (model prog w) sh (typeLookup (.type T) (dunderR n1)) ro := looks_findIn XK c7
  revert k4
  generalize ((fo.isSome && !isSeqSlot fo) || (ro.isSome && !isSeqSlot ro)) = rt
  intro k4
  have nq : (Value.ref C == Value.type T) = false := Bool.eq_false_iff.mpr fun q => by cases beq_iff_eq.mp q
  simp only [binaryOp, oi]
  refine wpAny_holding (wpAny_bind ?_)
  unfold binaryOp1
  refine wpAny_bind (k1.at (wpAny_bind (k2.at (wpAny_bind (k3.at ?_)))))
  simp only [nq, Bool.false_eq_true, if_false]
  cases rt
  all_goals
    ksp_lk
    refine wpAny_mono once (fun r s' y => ?_) fun _ _ e => e
    obtain ⟨v', rfl, hq⟩ := y
    ksp_lk
    exact hq
open PySem.W in
/-- v op o -/
theorem bin_right {op : Operator} {v : Value} {fo ro : Option Value} {fl : Bool} {Z : Value → Shared → Prop} (F : Fr hb L s.heap m) (X0 : K.In hb) (I : InstAt s.heap x ox C od) (lv : Looks (model prog w) s.heap (typeOf v) (.type T)) (c1 : selfFirst K C = true)
    (c2 : findIn K (.ref C) (PySem.dunder op.info.2) = some (some (.ref g2))) (c3 : isFn K (.ref g) = true) (c4 : findIn K (.ref C) (dunderR op.info.2) = some (some (.ref g)))
    (c6 : findIn K (.type T) (PySem.dunder op.info.2) = some fo) (c7 : findIn K (.type T) (dunderR op.info.2) = some ro) (c9 : ((fo.isSome && !isSeqSlot fo) || (ro.isSome && !isSeqSlot ro)) = fl) (c8 : fl = true → subIn K (.ref C) (.type T) = some false)
    (no : fl = true → Looks (model prog w) s.heap (tryMethod v (PySem.dunder op.info.2) (.ref x)) none)
    (go : wpAny (model prog w) A (call (.ref g) [.ref x, v]) (PySem.W.CmpBack Z) E s) : wpAny (model prog w) A (binaryOp op v (.ref x)) Z E s := by
  have XK := X0.keeps F.keep
  obtain ⟨cd, rest, hcd, hmro⟩ := ksp_first c1
  rcases oi : op.info with ⟨sy, n1⟩
  rw [oi] at c2 c4 c6 c7 no
  dsimp only at c2 c4 c6 c7 no
  have once := ksp_try XK I c4 c3 go
  obtain ⟨sh, sg, sd, stk, sos⟩ := s
  have k1 : Looks (model prog w) sh (typeOf (.ref x)) (.ref C) := I.type
  have k2 : Looks (model prog w) sh (typeOf v) (.type T) := lv
  have k3 : Looks (model prog w) sh (fillsNumberSlot (.ref C) n1) true := fills_K XK hcd hmro c2
  have k4 : Looks (model prog w) sh (fillsNumberSlot (.type T) n1) fl := c9 ▸ ksp_fillsT XK c6 c7
  have k7 : Looks (model prog w) sh (numberSlotInPython (.type T) n1) false := Looks.of_pure rfl
  have nq : (Value.type T == Value.ref C) = false := Bool.eq_false_iff.mpr fun q => by cases beq_iff_eq.mp q
  simp only [binaryOp, oi]
  refine wpAny_holding (wpAny_bind ?_)
  unfold binaryOp1
  refine wpAny_bind (k2.at (wpAny_bind (k1.at (wpAny_bind (k4.at ?_)))))
  simp only [nq, Bool.false_eq_true, if_false]
  cases fl with
  | false =>
    ksp_lk
    refine wpAny_mono once (fun r s' y => ?_) fun _ _ e => e
    obtain ⟨v', rfl, hq⟩ := y
    ksp_lk
    exact hq
  | true =>
    have k5 : Looks (model prog w) sh (isSubtype (.ref C) (.type T)) false := looks_subIn XK (c8 rfl)
    have k9 := no rfl
    ksp_lk
    refine Looks.at k9 ?_
    ksp_lk
    refine wpAny_mono once (fun r s' y => ?_) fun _ _ e => e
    obtain ⟨v', rfl, hq⟩ := y
    ksp_lk
    exact hq
end
section
variable {X : Cx} {pins : List (Addr × Obj)} {σ : L2.St} {H : Hp} {st : Shared}
theorem od_type {v : V} {u : Value} {t : Dt} (inv : Inv X pins σ H st) (o : OdAt H v t) (r : RelV v u) : st.TypeIs u t.ty := by
  cases t with
  | sc s =>
    obtain rfl : v = s.v := o
    cases s with
    | non => cases (show u = Value.none from r); exact rfl
    | bl b => cases (show u = Value.bool b from r); exact rfl
    | int i => obtain ⟨t, rfl⟩ := (show ∃ t, u = Value.int i t from r); exact rfl
    | str x => obtain ⟨t, rfl⟩ := (show ∃ t, u = Value.str x t from r); exact rfl
  | tup l =>
    obtain ⟨a, rfl, e⟩ := o
    obtain rfl : u = Value.ref a := r
    obtain ⟨its, rv, ⟨ob, ho, hc, n, hd⟩, _⟩ := inv.tuple (SqT.of e)
    exact ⟨_, ho, hc⟩
  | lst l =>
    obtain ⟨a, rfl, e⟩ := o
    obtain rfl : u = Value.ref a := r
    obtain ⟨its, rv, ⟨ob, n, ho, hc, _, hd⟩, _⟩ := inv.list (SqL.of e)
    exact ⟨_, ho, hc⟩
  | dct l =>
    obtain ⟨a, rfl, e⟩ := o
    obtain rfl : u = Value.ref a := r
    obtain ⟨_, ns, vs, kv, ob, es, ep, ho, hex, hd, _, prs, _⟩ := dk_of inv.hok e
    exact ⟨_, ho, hex.1⟩
theorem type_looks {M : Model} {s : Shared} {u : Value} {T : String} (h : s.TypeIs u T) : PySem.W.Looks M s.heap (typeOf u) (.type T) := by
  intro A Q E s' k q
  refine wpAny_typeOf (T := T) ?_ q
  cases u with
  | ref b =>
    obtain ⟨o, e, c⟩ := h
    exact ⟨o, k _ _ e, c⟩
  | _ => exact h
end
section
variable {M : Model} {s : Shared} {x C dx : Addr}
open PySem.SeqAt PySem.MeetsSeq PySem.AutoSeq1
theorem int_and_no (i : Int) (t : Tok) : Meets (Builtin.«int.__and__» ⟨[.int i t, .ref x], []⟩) (fun _ R s => s.heap.get? x = some (PySem.W.instObj C dx) ∧ R (.ok (.ret .notImplemented)) s) :=
  .of_wp fun prog w A R s h => by obtain ⟨hp, g, d, tk, os⟩ := s; obtain ⟨hl, h⟩ := h; wp_walk using wpAny_loadPart' hl, wpAny_load hl; exact ⟨_, rfl, h⟩
theorem int_or_no (i : Int) (t : Tok) : Meets (Builtin.«int.__or__» ⟨[.int i t, .ref x], []⟩) (fun _ R s => s.heap.get? x = some (PySem.W.instObj C dx) ∧ R (.ok (.ret .notImplemented)) s) :=
  .of_wp fun prog w A R s h => by obtain ⟨hp, g, d, tk, os⟩ := s; obtain ⟨hl, h⟩ := h; wp_walk using wpAny_loadPart' hl, wpAny_load hl; exact ⟨_, rfl, h⟩
theorem int_xor_no (i : Int) (t : Tok) : Meets (Builtin.«int.__xor__» ⟨[.int i t, .ref x], []⟩) (fun _ R s => s.heap.get? x = some (PySem.W.instObj C dx) ∧ R (.ok (.ret .notImplemented)) s) :=
  .of_wp fun prog w A R s h => by obtain ⟨hp, g, d, tk, os⟩ := s; obtain ⟨hl, h⟩ := h; wp_walk using wpAny_loadPart' hl, wpAny_load hl; exact ⟨_, rfl, h⟩
theorem bool_and_no (b : Bool) : Meets (Builtin.«bool.__and__» ⟨[.bool b, .ref x], []⟩) (fun _ R s => s.heap.get? x = some (PySem.W.instObj C dx) ∧ R (.ok (.ret .notImplemented)) s) :=
  .of_wp fun prog w A R s h => by obtain ⟨hp, g, d, tk, os⟩ := s; obtain ⟨hl, h⟩ := h; wp_walk using wpAny_loadPart' hl, wpAny_load hl; exact ⟨_, rfl, h⟩
theorem bool_or_no (b : Bool) : Meets (Builtin.«bool.__or__» ⟨[.bool b, .ref x], []⟩) (fun _ R s => s.heap.get? x = some (PySem.W.instObj C dx) ∧ R (.ok (.ret .notImplemented)) s) :=
  .of_wp fun prog w A R s h => by obtain ⟨hp, g, d, tk, os⟩ := s; obtain ⟨hl, h⟩ := h; wp_walk using wpAny_loadPart' hl, wpAny_load hl; exact ⟨_, rfl, h⟩
theorem bool_xor_no (b : Bool) : Meets (Builtin.«bool.__xor__» ⟨[.bool b, .ref x], []⟩) (fun _ R s => s.heap.get? x = some (PySem.W.instObj C dx) ∧ R (.ok (.ret .notImplemented)) s) :=
  .of_wp fun prog w A R s h => by obtain ⟨hp, g, d, tk, os⟩ := s; obtain ⟨hl, h⟩ := h; wp_walk using wpAny_loadPart' hl, wpAny_load hl; exact ⟨_, rfl, h⟩
end
section
variable {prog : Program} {w : World} {M : Model} {s : Shared} {x l C dx : Addr}
open PySem.SeqAt PySem.MeetsSeq PySem.AutoSeq1
theorem dict_or_no (es : Array DictEntry) (n : Nat) (dd : Option Addr) (sl : Array (Option Value)) : MeetsIn prog w (Builtin.«dict.__or__» ⟨[.ref l, .ref x], []⟩) (fun _ R s => s.heap.get? l = some { cls := .type "dict", dict := dd, data := .dict es n, slots := sl } ∧ s.heap.get? x = some (PySem.W.instObj C dx) ∧ PySem.W.Looks (model prog w) s.heap (isSubtype (.ref C) (.type "dict")) false ∧ R (.ok (.ret .notImplemented)) s) :=
  .of_wp fun A R s h => by
    obtain ⟨hp, g, d, tk, os⟩ := s
    obtain ⟨hl, hx, hs, h⟩ := h
    have f1 : isSubtype (.type "dict") (.type "dict") = pure true := by rw [isSubtype_type]; kernel_rfl
    wp_walk using wpAny_loadPart' hl, wpAny_load hl, wpAny_loadPart' hx, wpAny_load hx, hs.here
    exact ⟨_, rfl, h⟩
end
section
variable {prog : Program} {w : World} {A : Around} {E : Value → Shared → Prop} {s : Shared} {x C dx : Addr} {Q : Option Value → Shared → Prop}
theorem try_no {u : Value} {nm T id : String} (slot : Slot T (PySem.dunder nm) id) (ty : s.TypeIs u T) (c : ∀ Z : Value → Shared → Prop, Z .notImplemented s → wpAny (model prog w) A (call (.builtin id) [u, .ref x]) Z E s) (q : Q none s) : wpAny (model prog w) A (tryMethod u (PySem.dunder nm) (.ref x)) Q E s :=
  wpAny_tryMethod_declines (T := T) (name := PySem.dunder nm) (id := id) ty slot (c _ ⟨rfl, q⟩)
theorem try_int {i : Int} {t : Tok} {nm : String} (hn : nm = "and" ∨ nm = "or" ∨ nm = "xor") (h : s.heap.get? x = some (PySem.W.instObj C dx)) (q : Q none s) : wpAny (model prog w) A (tryMethod (.int i t) (PySem.dunder nm) (.ref x)) Q E s := by
  rcases hn with rfl | rfl | rfl
  · exact try_no (nm := "and") (T := "int") (id := "int.__and__") F.slot_int_and (typeIs_int s i t) (fun Z z => call_meets F.slot_int_and (typeIs_int s i t) F.entry_int_and (F.args_int_and_2 _ _) (int_and_no i t) ⟨h, z⟩) q
  · exact try_no (nm := "or") (T := "int") (id := "int.__or__") F.slot_int_or (typeIs_int s i t) (fun Z z => call_meets F.slot_int_or (typeIs_int s i t) F.entry_int_or (F.args_int_or_2 _ _) (int_or_no i t) ⟨h, z⟩) q
  · exact try_no (nm := "xor") (T := "int") (id := "int.__xor__") F.slot_int_xor (typeIs_int s i t) (fun Z z => call_meets F.slot_int_xor (typeIs_int s i t) F.entry_int_xor (F.args_int_xor_2 _ _) (int_xor_no i t) ⟨h, z⟩) q
theorem try_bool {b : Bool} {nm : String} (hn : nm = "and" ∨ nm = "or" ∨ nm = "xor") (h : s.heap.get? x = some (PySem.W.instObj C dx)) (q : Q none s) : wpAny (model prog w) A (tryMethod (.bool b) (PySem.dunder nm) (.ref x)) Q E s := by
  have ty : s.TypeIs (.bool b) "bool" := rfl
  rcases hn with rfl | rfl | rfl
  · exact try_no (nm := "and") (T := "bool") (id := "bool.__and__") F.slot_bool_and ty (fun Z z => call_meets F.slot_bool_and ty F.entry_bool_and (F.args_bool_and_2 _ _) (bool_and_no b) ⟨h, z⟩) q
  · exact try_no (nm := "or") (T := "bool") (id := "bool.__or__") F.slot_bool_or ty (fun Z z => call_meets F.slot_bool_or ty F.entry_bool_or (F.args_bool_or_2 _ _) (bool_or_no b) ⟨h, z⟩) q
  · exact try_no (nm := "xor") (T := "bool") (id := "bool.__xor__") F.slot_bool_xor ty (fun Z z => call_meets F.slot_bool_xor ty F.entry_bool_xor (F.args_bool_xor_2 _ _) (bool_xor_no b) ⟨h, z⟩) q
theorem try_dict {l : Addr} {es : Array DictEntry} {n : Nat} {dd : Option Addr} {sl : Array (Option Value)} (hl : s.heap.get? l = some { cls := .type "dict", dict := dd, data := .dict es n, slots := sl }) (h : s.heap.get? x = some (PySem.W.instObj C dx)) (ls : PySem.W.Looks (model prog w) s.heap (isSubtype (.ref C) (.type "dict")) false) (q : Q none s) :
    wpAny (model prog w) A (tryMethod (.ref l) (PySem.dunder "or") (.ref x)) Q E s := by
  have ty : s.TypeIs (.ref l) "dict" := ⟨_, hl, rfl⟩
  exact try_no (nm := "or") (T := "dict") (id := "dict.__or__") F.slot_dict_or ty (fun Z z => call_meetsIn F.slot_dict_or ty F.entry_dict_or (F.args_dict_or_2 _ _) (dict_or_no es n dd sl) ⟨hl, h, ls, z⟩) q
end
/-! ### the rules -/
theorem ty_in (t : Dt) : t.ty ∈ ["NoneType", "bool", "int", "str", "tuple", "list", "dict"] := by
  cases t with
  | sc s => cases s <;> simp [Dt.ty]
  | tup => simp [Dt.ty]
  | lst => simp [Dt.ty]
  | dct => simp [Dt.ty]
theorem find_ty (K : PySem.W.Frag) {T : String} (h : T ∈ ["NoneType", "bool", "int", "str", "tuple", "list", "dict"]) (n : Str) (hn : n ∈ (["__and__", "__rand__", "__or__", "__ror__", "__xor__", "__rxor__", "__lshift__", "__rlshift__", "__rshift__", "__rrshift__"] : List Str)) : ∃ r, PySem.W.findIn K (.type T) n = some r := by
  have z : ∀ T ∈ ["NoneType", "bool", "int", "str", "tuple", "list", "dict"], ∀ n ∈ (["__and__", "__rand__", "__or__", "__ror__", "__xor__", "__rxor__", "__lshift__", "__rlshift__", "__rshift__", "__rrshift__"] : List Str), (PySem.fastLookup T n).isSome = true := by decide +kernel
  exact Option.isSome_iff_exists.mp (z T h n hn)
theorem sub_ty (K : PySem.W.Frag) {T : String} (h : T ∈ ["NoneType", "bool", "int", "str", "tuple", "list", "dict"]) (C : Addr) : PySem.W.subIn K (.type T) (.ref C) = some false := by
  simp only [List.mem_cons, List.not_mem_nil, or_false] at h
  rcases h with rfl | rfl | rfl | rfl | rfl | rfl | rfl <;> rfl
section
variable {X : Cx}
def ops3 : List Operator := [.BitAnd, .BitOr, .BitXor]
def ops5 : List Operator := [.BitAnd, .BitOr, .BitXor, .LShift, .RShift]
structure OwnBD (P : Program) (w : World) (K : PySem.W.Frag) (mg : Str → Option Value) (base : Heap) (CX : CXT) (k : Nat) (C : Addr) (op : Operator) (ps : List Str) (sp : Sp) : Prop where
  ex : ∃ (g : Addr) (fd : FuncData) (rc : Option Value), op ∈ ops5 ∧ PySem.W.selfFirst K C = true ∧ PySem.W.findIn K (.ref C) (PySem.dunder op.info.2) = some (some (.ref g)) ∧ PySem.W.isFn K (.ref g) = true ∧ PySem.W.findIn K (.ref C) (dunderR op.info.2) = some rc ∧ (rc = none ∨ ∃ g : Addr, rc = some (.ref g)) ∧ FnOk P w K mg base CX k g fd ps sp ∧ Binds K fd ps []
structure OwnBR (P : Program) (w : World) (K : PySem.W.Frag) (mg : Str → Option Value) (base : Heap) (CX : CXT) (k : Nat) (C : Addr) (op : Operator) (ps : List Str) (sp : Sp) : Prop where
  ex : ∃ (g g2 : Addr) (fd : FuncData), op ∈ ops3 ∧ PySem.W.selfFirst K C = true ∧ PySem.W.findIn K (.ref C) (PySem.dunder op.info.2) = some (some (.ref g2)) ∧ PySem.W.isFn K (.ref g) = true ∧ PySem.W.findIn K (.ref C) (dunderR op.info.2) = some (some (.ref g)) ∧
    PySem.W.subIn K (.ref C) (.type "int") = some false ∧ PySem.W.subIn K (.ref C) (.type "bool") = some false ∧ PySem.W.subIn K (.ref C) (.type "dict") = some false ∧ FnOk P w K mg base CX k g fd ps sp ∧ Binds K fd ps []
theorem find5 (K : PySem.W.Frag) {T : String} (h : T ∈ ["NoneType", "bool", "int", "str", "tuple", "list", "dict"]) {op : Operator} (ho : op ∈ ops5) : (∃ r, PySem.W.findIn K (.type T) (PySem.dunder op.info.2) = some r) ∧ ∃ r, PySem.W.findIn K (.type T) (dunderR op.info.2) = some r := by
  have m : ∀ op ∈ ops5, PySem.dunder op.info.2 ∈ (["__and__", "__rand__", "__or__", "__ror__", "__xor__", "__rxor__", "__lshift__", "__rlshift__", "__rshift__", "__rrshift__"] : List Str) ∧ dunderR op.info.2 ∈ (["__and__", "__rand__", "__or__", "__ror__", "__xor__", "__rxor__", "__lshift__", "__rlshift__", "__rshift__", "__rrshift__"] : List Str) := by
    intro op ho
    simp only [ops5, List.mem_cons, List.not_mem_nil, or_false] at ho
    rcases ho with rfl | rfl | rfl | rfl | rfl <;> decide +kernel
  exact ⟨find_ty K h _ (m op ho).1, find_ty K h _ (m op ho).2⟩
def rBinD (C : Addr) (sp : Sp) (E : XK) : R2 := fun x y H Q => ∃ (a dx : Addr) (fs : List (Str × V)) (t : Dt), x = .ref a ∧ H a = some (.ins C dx fs) ∧ OdAt H y t ∧ sp [x, y] H Q E
def rBinR (C : Addr) (sp : Sp) (E : XK) : R2 := fun x y H Q => ∃ (a dx : Addr) (fs : List (Str × V)) (t : Dt), y = .ref a ∧ H a = some (.ins C dx fs) ∧ OdAt H x t ∧ sp [y, x] H Q E
theorem op_binD {CX : CXT} {E : XK} {C : Addr} {op : Operator} {ps : List Str} {sp : Sp} {n : Nat} (c : OwnBD X.prog X.w X.K X.mg X.base CX n C op ps sp) (room : Room n X.A) (pass : Passes CX X E) : OpR X (binaryOp op) (rBinD C sp E) := by
  obtain ⟨g, fd, rc, ho, c1, c2, c3, c4, c5, F, bind⟩ := c.ex
  intro pins st σ h x y v u Z inv rx ry pre
  obtain ⟨a, dx, fs, t, rfl, ha, od, z⟩ := pre
  obtain rfl : v = Value.ref a := rx
  obtain ⟨oo, J⟩ := inst_of inv ha
  obtain ⟨m, hF⟩ := inv.fr
  obtain ⟨⟨fo, e1⟩, ro, e2⟩ := find5 X.K (ty_in t) ho
  refine bin_left hF inv.ok.mod.kin J (type_looks (od_type inv od ry)) c1 c2 c3 c4 c5 e1 e2 (sub_ty X.K (ty_in t) C) ?_
  refine wpAny_mono (run_fn (us := [.ref a, u]) (vs := [.ref a, y]) F room bind .nil pass inv (.cons rfl (.cons ry .nil)) z) (fun w s2 r => ?_) fun _ _ z => z
  obtain ⟨z', h2, inv2, rz, qz⟩ := r
  exact SlX.cmpback rz ⟨z', h2, inv2, rz, qz⟩
theorem on3 {op : Operator} (ho : op ∈ ops3) : op.info.2 = "and" ∨ op.info.2 = "or" ∨ op.info.2 = "xor" := by
  simp only [ops3, List.mem_cons, List.not_mem_nil, or_false] at ho
  rcases ho with rfl | rfl | rfl
  · exact .inl rfl
  · exact .inr (.inl rfl)
  · exact .inr (.inr rfl)
/-- the three operations, by types of data that know none of them, or decline -/
theorem declines {P : Program} {w : World} {pins : List (Addr × Obj)} {σ : L2.St} {H : Hp} {st : Shared} {K : PySem.W.Frag} {v : V} {u : Value} {t : Dt} {a C dx : Addr} {oo : Option Obj} {op : Operator} {fo ro : Option Value} (ho : op ∈ ops3) (inv : Inv X pins σ H st) (XK : K.In st.heap) (od : OdAt H v t) (r : RelV v u) (J : PySem.W.InstAt st.heap a (PySem.W.instObj C dx) C oo)
    (s3 : PySem.W.subIn K (.ref C) (.type "dict") = some false)
    (e1 : PySem.W.findIn K (.type t.ty) (PySem.dunder op.info.2) = some fo) (e2 : PySem.W.findIn K (.type t.ty) (dunderR op.info.2) = some ro) (fl : ((fo.isSome && !isSeqSlot fo) || (ro.isSome && !isSeqSlot ro)) = true) :
    (t.ty = "int" ∨ t.ty = "bool" ∨ t.ty = "dict") ∧ PySem.W.Looks (model P w) st.heap (tryMethod u (PySem.dunder op.info.2) (.ref a)) none := by
  have hx : st.heap.get? a = some (PySem.W.instObj C dx) := J.at_
  have none4 : ∀ T ∈ ["NoneType", "str", "tuple", "list"], ∀ n ∈ (["__and__", "__rand__", "__or__", "__ror__", "__xor__", "__rxor__"] : List Str), (PySem.fastLookup T n).map Option.isNone = some true := by decide +kernel
  have noneD : ∀ n ∈ (["__and__", "__rand__", "__xor__", "__rxor__"] : List Str), (PySem.fastLookup "dict" n).map Option.isNone = some true := by decide +kernel
  have d1 : PySem.dunder Operator.BitAnd.info.2 = "__and__" ∧ dunderR Operator.BitAnd.info.2 = "__rand__" := by decide +kernel
  have d2 : PySem.dunder Operator.BitOr.info.2 = "__or__" ∧ dunderR Operator.BitOr.info.2 = "__ror__" := by decide +kernel
  have d3 : PySem.dunder Operator.BitXor.info.2 = "__xor__" ∧ dunderR Operator.BitXor.info.2 = "__rxor__" := by decide +kernel
  have lk : ∀ (T : String) (n : Str) (r : Option Value), PySem.W.findIn K (.type T) n = some r → PySem.fastLookup T n = some r := fun _ _ _ e => e
  replace e1 := lk _ _ _ e1
  replace e2 := lk _ _ _ e2
  have clash : ∀ (T : String) (n1 n2 : Str), (PySem.fastLookup T n1).map Option.isNone = some true → (PySem.fastLookup T n2).map Option.isNone = some true → PySem.fastLookup T n1 = some fo → PySem.fastLookup T n2 = some ro → False := by
    intro T n1 n2 y1 y2 z1 z2
    rw [z1] at y1
    rw [z2] at y2
    cases fo with
    | some _ => cases y1
    | none =>
      cases ro with
      | some _ => cases y2
      | none => cases fl
  have four : t.ty ∈ ["NoneType", "str", "tuple", "list"] → False := by
    intro ht
    simp only [ops3, List.mem_cons, List.not_mem_nil, or_false] at ho
    rcases ho with rfl | rfl | rfl
    · rw [d1.1] at e1
      rw [d1.2] at e2
      exact clash _ _ _ (none4 _ ht "__and__" (by simp)) (none4 _ ht "__rand__" (by simp)) e1 e2
    · rw [d2.1] at e1
      rw [d2.2] at e2
      exact clash _ _ _ (none4 _ ht "__or__" (by simp)) (none4 _ ht "__ror__" (by simp)) e1 e2
    · rw [d3.1] at e1
      rw [d3.2] at e2
      exact clash _ _ _ (none4 _ ht "__xor__" (by simp)) (none4 _ ht "__rxor__" (by simp)) e1 e2
  cases t with
  | sc sc0 =>
    obtain rfl : v = sc0.v := od
    cases sc0 with
    | non => exact (four (by simp [Dt.ty])).elim
    | str => exact (four (by simp [Dt.ty])).elim
    | int i =>
      obtain ⟨tk, rfl⟩ := (show ∃ t, u = Value.int i t from r)
      refine ⟨.inl rfl, fun A Q E s' k q => ?_⟩
      exact try_int (C := C) (dx := dx) (on3 ho) (k _ _ hx) q
    | bl b =>
      obtain rfl := (show u = Value.bool b from r)
      refine ⟨.inr (.inl rfl), fun A Q E s' k q => ?_⟩
      exact try_bool (C := C) (dx := dx) (on3 ho) (k _ _ hx) q
  | tup l => exact (four (by simp [Dt.ty])).elim
  | lst l => exact (four (by simp [Dt.ty])).elim
  | dct l =>
    obtain ⟨b, rfl, e⟩ := od
    obtain rfl : u = Value.ref b := r
    obtain ⟨_, ns, vs, kv, ob, es, ep, hb, hex, hd, _, prs, _⟩ := dk_of inv.hok e
    refine ⟨.inr (.inr rfl), fun A Q E s' k q => ?_⟩
    simp only [ops3, List.mem_cons, List.not_mem_nil, or_false] at ho
    rcases ho with rfl | rfl | rfl
    · rw [d1.1] at e1
      rw [d1.2] at e2
      exact (clash "dict" _ _ (noneD "__and__" (by simp)) (noneD "__rand__" (by simp)) e1 e2).elim
    · obtain ⟨cls, dd, data, sl⟩ := ob
      have hc := hex.1
      simp only at hc hd
      subst hc hd
      exact try_dict (C := C) (dx := dx) (k _ _ hb) (k _ _ hx) ((PySem.W.looks_subIn XK s3).keeps k) q
    · rw [d3.1] at e1
      rw [d3.2] at e2
      exact (clash "dict" _ _ (noneD "__xor__" (by simp)) (noneD "__rxor__" (by simp)) e1 e2).elim
theorem op_binR {CX : CXT} {E : XK} {C : Addr} {op : Operator} {ps : List Str} {sp : Sp} {n : Nat} (c : OwnBR X.prog X.w X.K X.mg X.base CX n C op ps sp) (room : Room n X.A) (pass : Passes CX X E) : OpR X (binaryOp op) (rBinR C sp E) := by
  obtain ⟨g, g2, fd, ho, c1, c2, c3, c4, s1, s2, s3, F, bind⟩ := c.ex
  intro pins st σ h x y v u Z inv rx ry pre
  obtain ⟨a, dx, fs, t, rfl, ha, od, z⟩ := pre
  obtain rfl : u = Value.ref a := ry
  obtain ⟨oo, J⟩ := inst_of inv ha
  obtain ⟨m, hF⟩ := inv.fr
  have ho5 : op ∈ ops5 := by
    simp only [ops3, ops5, List.mem_cons, List.not_mem_nil, or_false] at ho ⊢
    rcases ho with h | h | h <;> simp [h]
  obtain ⟨⟨fo, e1⟩, ro, e2⟩ := find5 X.K (ty_in t) ho5
  have dc := declines (P := X.prog) (w := X.w) ho inv inv.kIn od rx J s3 e1 e2
  refine bin_right hF inv.ok.mod.kin J (type_looks (od_type inv od rx)) c1 c2 c3 c4 e1 e2 rfl (fun y => ?_) (fun y => (dc y).2) ?_
  · rcases (dc y).1 with e | e | e <;> rw [e] <;> assumption
  refine wpAny_mono (run_fn (us := [.ref a, v]) (vs := [.ref a, x]) F room bind .nil pass inv (.cons rfl (.cons rx .nil)) z) (fun w s2 r => ?_) fun _ _ z => z
  obtain ⟨z', h2, inv2, rz, qz⟩ := r
  exact SlX.cmpback rz ⟨z', h2, inv2, rz, qz⟩
end
end KR

/-! KP: repr of a list of scalars and of own objects that have a __repr__ of their own. -/
namespace KP
open PySem PySem.Spec PyProof.Rows L2 KB KG KO KY
section
variable {prog : Program} {w : World} {A : Around} {E : Value → Shared → Prop} {s : Shared} {K : PySem.W.Frag} {x C L f : Addr} {hb : Heap} {m : Str → Option Value} {ox : Obj} {od : Option Obj}
open PySem.W in
theorem boundBy_K {M : Model} {last : Value → List Value → Sem Value} {name : Str} {Z : Option Value → Shared → Prop} (XK : K.In s.heap) (J : InstAt s.heap x ox C od) (c1 : findIn K (.ref C) name = some (some (.ref f))) (c2 : isFn K (.ref f) = true)
    (go : wpAny M A (last (.ref f) [.ref x]) (fun v => Z (some v)) E s) : wpAny M A (callSpecialIfBoundBy? last (.ref x) name) Z E s := by
  simp only [callSpecialIfBoundBy?, bindSpecialIfBound?]
  refine wpAny_holding (wpAny_bind (wpAny_bind (wpAny_bind (J.type.here ((looks_findIn XK c1).here ?_)))))
  refine wpAny_bind (wpAny_askSetting (wpAny_ite ?_))
  have last1 : wpAny M A (last (.ref f) [.ref x] >>= fun v => pure (some v)) Z E s := wpAny_bind (wpAny_mono go (fun _ _ y => wpAny_pure y) fun _ _ y => y)
  split
  · exact wpAny_bind ((bind_fn XK _ (beq_iff_eq.mp c2)).here (wpAny_pure (by exact last1)))
  · exact wpAny_tryCatch (wpAny_bind ((bind_fn XK _ (beq_iff_eq.mp c2)).here (wpAny_pure (by exact last1))))
open PySem.W in
theorem reprUnder_K {b : Nat} {Z : Str → Shared → Prop} (hz : b ≤ sizeLine) (hu : A.units < cLine) (XK : K.In s.heap) (J : InstAt s.heap x ox C od) (c1 : findIn K (.ref C) "__repr__" = some (some (.ref f))) (c2 : isFn K (.ref f) = true)
    (go : wpAny (model prog w) A (call (.ref f) [.ref x]) (fun v s' => ∃ t u, v = .str t u ∧ Z t s') E s) : wpAny (model prog w) A (pyReprUnder b (.ref x)) Z E s := by
  refine wpAny_pyReprUnder_ref hz ?_
  unfold pyReprObjUnder pyReprObjBy
  refine wpAny_bind (wpAny_cRoomFor hu ?_)
  refine wpAny_bind (wpAny_bind (J.type.here ((looks_findIn XK c1).here ?_)))
  show wpAny _ _ (if (some (Value.ref f)).isNone = true then _ else _) _ _ _
  rw [if_neg (by simp)]
  refine wpAny_bind (m := callSpecialIfBoundBy? _ (.ref x) (Str.ofString "__repr__")) (boundBy_K XK J c1 c2 ?_)
  refine wpAny_mono go (fun v s' y => ?_) fun _ _ y => y
  obtain ⟨t, u, rfl, q⟩ := y
  exact wpAny_bind (wpAny_isInstance (T := "str") (b := true) rfl isSubtype_str_str (wpAny_pure ⟨_, _, rfl, q⟩))
end
/-- an item and its text -/
def ItOk (P : Program) (w : World) (C : Addr) (sp : Sp) (H : Hp) (v : V) (t : Str) : Prop :=
  (∀ u, RelV v u → ReprIs P w u t) ∨ ∃ (a dx : Addr) (fs : List (Str × V)), v = .ref a ∧ H a = some (.ins C dx fs) ∧ ∀ H', Same H H' → ∀ Q : VK, Q (.str t) H' → sp [.ref a] H' Q E0
section
variable {X : Cx}
theorem frames_loop (A : Around) (args : Args) : (A.under (.builtin "list.__repr__.loop" args)).frames = A.frames ∧ (A.under (.builtin "list.__repr__.loop" args)).handled = A.handled ∧ (A.under (.builtin "list.__repr__.loop" args)).depth ≤ A.depth + 1 := by
  refine ⟨?_, ?_, ?_⟩ <;> first | rfl | simp [Around.under, Code.weight, Code.isCreation, Code.isGuard, Code.isCaller, Code.frames, Code.isFrame, guardIds]
theorem strs_done : ∀ (ts : List Str) (us : List Value), Vals (ts.map V.str) us → ∃ dn : List (Str × Tok), us = strValues dn ∧ dn.map (·.1) = ts
  | [], us, r => by cases r; exact ⟨[], rfl, rfl⟩
  | t :: ts, us, r => by
    cases r with
    | cons r1 r2 =>
      obtain ⟨tk, rfl⟩ := r1
      obtain ⟨dn, rfl, e⟩ := strs_done ts _ r2
      exact ⟨(t, tk) :: dn, rfl, by rw [List.map_cons, e]⟩
theorem vals_at : ∀ {xs : List V} {us : List Value}, Vals xs us → ∀ (i : Nat) (v : V), xs[i]? = some v → ∃ u, us[i]? = some u ∧ RelV v u
  | _, _, .nil, i, v, e => by simp at e
  | _, _, .cons r1 r2, 0, v, e => ⟨_, rfl, by cases e; exact r1⟩
  | _, _, .cons r1 r2, i + 1, v, e => vals_at r2 i v e
theorem loop {C : Addr} {sp : Sp} {ps : List Str} {n : Nat} (c : OwnM X.prog X.w X.K X.mg X.base n C "__repr__" ps sp) {A : Around} (hfr : A.frames = X.A.frames) (hh : A.handled = none) (hd : A.depth + 1 + 3 * n + 5 < recursionLimit) (hu : A.units + 1 + 16 * n + 200 < cLine)
    {p P : Addr} {vs : List V} {ts : List Str} {H0 : Hp} (len : ts.length = vs.length) (sz : (listText ts).length ≤ sizeLine) (its : ∀ (i : Nat) (v : V) (t : Str), vs[i]? = some v → ts[i]? = some t → ItOk X.prog X.w C sp H0 v t) (nP : H0 P = none) (hp : H0 p = some (.lst vs)) {pins : List (Addr × Obj)} {σ : L2.St} {R : Result → Shared → Prop}
    (last : ∀ H' s' u, Same H0 H' → Inv X pins σ H' s' → R (.ok (.ret (.str (listText ts) u))) s') :
    ∀ (k i : Nat) (s : Shared) (H : Hp), vs.length - i = k → i ≤ vs.length → Same H0 H → Inv X pins σ H s → H P = some (.lst ((ts.take i).map V.str)) →
      codeAny (model X.prog X.w) A (.builtin "list.__repr__.loop" ⟨[.ref p, rawInt i, .ref P, rawInt ((piled (ts.take i) : Nat) : Int)], []⟩) R s := by
  obtain ⟨g, fd, hs, hf, F, bind⟩ := c.ex
  have tl := textFrom_len ts 0 "["
  have sl : (listText ts).length = (textFrom 0 "[" ts).length + 1 := by
    show (textFrom 0 "[" ts ++ "]").length = _
    rw [strLen_append]; rfl
  have s2 : ∀ t ∈ ts, t.length ≤ sizeLine := fun t ht => by
    have := tl.2.1 t ht
    omega
  have pl := piled_le_listText ts
  intro k
  induction k with
  | zero =>
    intro i s H hk hi sm inv eP
    have hin : i = vs.length := by omega
    obtain ⟨us, rv, ⟨ob, nb, ho, hc, _, hdt⟩, _⟩ := inv.list (SqL.of (sm _ _ hp))
    obtain ⟨z2, us2, n2, r2, l2, e2⟩ := inv.lstM eP
    have lu := rv.length
    refine codeAny_builtin PySem.F.entry_list_repr_loop ?_
    show wpAny _ _ (Builtin.«list.__repr__.loop» ⟨[.ref p, .int i 0, .ref P, .int ((piled (ts.take i) : Nat) : Int) 0], []⟩) _ _ s
    rw [repr_loop_tree]
    refine wpAny_bind (wpAny_listItems ho hdt ?_)
    have hno : us.toArray[(i : Int).toNat]? = none := by simp [hin, lu]
    simp only [hno]
    unfold reprEnd
    refine wpAny_bind (wpAny_listItems e2 rfl ?_)
    rw [hin, ← len, List.take_length] at r2
    obtain ⟨dn, rfl, ed⟩ := strs_done ts us2 r2
    rw [repr_fold, ed]
    refine wpAny_bind (wpAny_pure ?_)
    refine wpAny_bind (wpAny_mkStr (wpAny_pure ?_) sz)
    exact last H _ _ sm (inv.tok _)
  | succ k ih =>
    intro i s H hk hi sm inv eP
    have hlt : i < vs.length := by omega
    obtain ⟨us, rv, ⟨ob, nb, ho, hc, _, hdt⟩, _⟩ := inv.list (SqL.of (sm _ _ hp))
    have lu := rv.length
    have ev : vs[i]? = some vs[i] := List.getElem?_eq_getElem hlt
    have et : ts[i]? = some (ts[i]'(by omega)) := List.getElem?_eq_getElem (by omega)
    obtain ⟨u, eu, ru⟩ := vals_at rv i _ ev
    have it := its i _ _ ev et
    generalize ts[i]'(by omega) = t at et it
    generalize vs[i] = v at ev ru it
    have p1 := piled_take_succ et
    have p2 := piled_take_le ts (i + 1)
    refine codeAny_builtin PySem.F.entry_list_repr_loop ?_
    show wpAny _ _ (Builtin.«list.__repr__.loop» ⟨[.ref p, .int i 0, .ref P, .int ((piled (ts.take i) : Nat) : Int) 0], []⟩) _ _ s
    rw [repr_loop_tree]
    refine wpAny_bind (wpAny_listItems ho hdt ?_)
    have hso : us.toArray[(i : Int).toNat]? = some u := by simpa using eu
    simp only [hso]
    rw [Int.toNat_natCast]
    have rest : ∀ s', Inv X pins σ H s' → wpAny (model X.prog X.w) (A.under (.builtin "list.__repr__.loop" ⟨[.ref p, rawInt i, .ref P, rawInt ((piled (ts.take i) : Nat) : Int)], []⟩)) (do
        let r ← mkStr t
        Builtin.List.listUpdate (.ref P) (·.push r)
        again (.builtin "list.__repr__.loop" ⟨[.ref p, rawInt (i + 1), .ref P, rawInt ((piled (ts.take i) + (t.length + 2) : Nat) : Int)], []⟩))
        (fun fin s' => match fin with | .done f => R (.ok f) s' | .again c' => c'.quiet = true ∧ codeAny (model X.prog X.w) A c' R s') (fun e s' => R (.error e) s') s' := by
      intro s' inv'
      obtain ⟨z2, us2, n2, r2, l2, e2⟩ := inv'.lstM eP
      have l3 := r2.length
      have l4 : ((ts.take i).map V.str).length ≤ i := by simp; omega
      have l5 : i < sizeLine := by
        have := tl.1
        rw [if_neg (Nat.lt_irrefl 0)] at this
        omega
      refine wpAny_bind (wpAny_mkStr ?_ (s2 t (List.mem_of_getElem? et)))
      refine wpAny_bind ?_
      show wpAny _ _ (updateSeq P _) _ _ _
      refine wpAny_updateSeq e2 rfl (wpAny_pure ⟨PySem.F.quiet_list_repr_loop _, ?_⟩) (by rw [List.size_toArray]; omega)
      have a1 : ((i : Int) + 1) = ((i + 1 : Nat) : Int) := by omega
      have a2 : piled (ts.take i) + (t.length + 2) = piled (ts.take (i + 1)) := by omega
      rw [a1, a2]
      refine ih (i + 1) _ (upd H P (.lst ((ts.take (i + 1)).map V.str))) (by omega) hlt (same_mut sm nP) ?_ upd_same
      refine inv'.lset (its' := us2 ++ [.str t s'.toks]) eP e2 (by simp) ?_ (by simp; omega)
      rw [List.take_add_one, et, List.map_append]
      exact r2.append (.cons ⟨_, rfl⟩ .nil)
    rcases it with it | ⟨a, dx, fs, rfl, ha, it⟩
    · refine wpAny_bind (wpAny_holding (it u ru (piled (ts.take i) + 1) (by omega) _ _ _ _ fun tk => ?_))
      exact rest _ (inv.tok _)
    · obtain rfl : u = Value.ref a := ru
      obtain ⟨oo, J⟩ := inst_of inv (sm _ _ ha)
      have fl := frames_loop A ⟨[.ref p, rawInt i, .ref P, rawInt ((piled (ts.take i) : Nat) : Int)], []⟩
      have ul := units_under_list_loop A ⟨[.ref p, rawInt i, .ref P, rawInt ((piled (ts.take i) : Nat) : Int)], []⟩
      refine wpAny_bind (wpAny_holding (reprUnder_K (by omega) (by rw [ul]; omega) inv.kIn J hs hf ?_))
      have e0 := inv.env0
      refine wpAny_mono (run0 (E' := fun e s' => R (.error e) s') (xs := [.ref a]) F ⟨by rw [fl.2.1]; exact hh, by have := fl.2.2; omega, by rw [ul]; omega⟩ ⟨by rw [fl.1, hfr]; exact e0.frames, e0.mod, e0.bs, e0.bsz, e0.funs, e0.frf, e0.hok, e0.bare⟩ bind inv (.cons rfl .nil) (it H sm (fun v' H' => v' = .str t ∧ H' = H) ⟨rfl, rfl⟩)) (fun v' st y => ?_) fun _ _ y => y
      obtain ⟨w', H', inv2, rw', e1, e2⟩ := y
      subst e1 e2
      obtain ⟨tk, rfl⟩ := (show ∃ tk, v' = Value.str t tk from rw')
      exact ⟨t, tk, rfl, rest _ inv2⟩
def rReprL (P : Program) (w : World) (C : Addr) (sp : Sp) : List V → Hp → VK → Prop := fun xs H Q => ∃ (p : Addr) (vs : List V) (ts : List Str), xs = [.ref p] ∧ H p = some (.lst vs) ∧ vs ≠ [] ∧ ts.length = vs.length ∧ (listText ts).length ≤ sizeLine ∧
  (∀ (i : Nat) (v : V) (t : Str), vs[i]? = some v → ts[i]? = some t → ItOk P w C sp H v t) ∧ ∀ H', Same H H' → Q (.str (listText ts)) H'
theorem call_reprL {C : Addr} {sp : Sp} {ps : List Str} {n : Nat} (c : OwnM X.prog X.w X.K X.mg X.base n C "__repr__" ps sp) (fr : Free X.A) (room : Room (n + 1) X.A) : CallR X (.builtin "repr") (rReprL X.prog X.w C sp) := by
  intro pins st σ h xs us Z inv rel pre
  obtain ⟨p, vs, ts, rfl, hp, ne, len, sz, its, z⟩ := pre
  obtain ⟨u, rfl, rv⟩ := vals_one rel
  obtain rfl : u = Value.ref p := rv
  obtain ⟨us, rl, ⟨ob, nb, ho, hc, hsl, hd⟩, _⟩ := inv.list (SqL.of hp)
  have ty : st.TypeIs (.ref p) "list" := ⟨_, ho, hc⟩
  have un := room.un
  have dp := room.dp
  refine KG.repr_slot (by omega) ty PySem.F.slot_list_repr.toG ?_
  refine wpAny_callSpecialIfBound?_slot (name := Str.ofString "__repr__") ty PySem.F.slot_list_repr ?_
  cases us with
  | nil =>
    cases rl
    exact absurd rfl ne
  | cons u1 us =>
    refine wpAny_call (codeAny_call_builtin PySem.F.slot_list_repr.plain PySem.F.entry_list_repr (PySem.F.slot_list_repr.check _ _ _ _ _ _ _ _ ty (PySem.F.args_list_repr_1 _) ?_))
    refine wpAny_list_repr_head (A := X.A.in1.in1) (g := []) fr (fun v rest kw m => absurd m List.not_mem_nil) ho hd ?_
    refine wpAny_bind (m := newList []) (wpAny_newObj_type ?_)
    refine wpAny_pure ⟨PySem.F.quiet_list_repr_loop _, ?_⟩
    have fresh : h st.heap.objs.size = none := inv.hok.fresh (Nat.le_refl _)
    refine loop c (A := X.A.in1) (pins := pins) (σ := σ) rfl room.hd (show X.A.depth + 1 + 3 * n + 5 < _ by omega) (show X.A.units + 1 + 1 + 16 * n + 200 < _ by omega) (P := st.heap.objs.size) len sz its fresh hp (fun H' s' u sm inv' => ?_) _ 0 _ (upd h st.heap.objs.size (.lst [])) rfl (Nat.zero_le _) (same_new fresh) ?_ upd_same
    · exact ⟨_, _, rfl, .str (listText ts), H', inv', ⟨u, rfl⟩, z H' sm⟩
    · exact inv.lnew (its := []) .nil (Nat.zero_le _)
/-- one of two ways -/
theorem call_or {f : Value} {r1 r2 : List V → Hp → VK → Prop} (c1 : CallR X f r1) (c2 : CallR X f r2) : CallR X f (fun xs H Q => r1 xs H Q ∨ r2 xs H Q) := by
  intro pins st σ h xs us Z inv rel pre
  rcases pre with pre | pre
  · exact c1 pins st σ h xs us Z inv rel pre
  · exact c2 pins st σ h xs us Z inv rel pre
end
end KP
/-! ### classmethods; cls(..) -/
namespace KP
open PySem PySem.Spec PyProof.Rows L2 KB KG KO KY
section
variable {X : Cx}
structure CalleeC (P : Program) (w : World) (K : PySem.W.Frag) (mg : Str → Option Value) (base : Heap) (CX : CXT) (k : Nat) (C : Addr) (m : Str) (sp : Sp) : Prop where
  ex : ∃ (mc : Value) (p g : Addr), ClX.CRead K C mc ∧ ClX.CMet K C mc m p g ∧ FnR P w K mg base CX k g sp
theorem pe_cmethC {pl : Sem Bool} {CX : CXT} {k : Nat} {C : Addr} {m : Str} {sp : Sp} {E : XK} {o e : Expr} {es : List Expr} {apos pos : Pos} {ta : TE} {t : TA} (c : CalleeC X.prog X.w X.K X.mg X.base CX k C m sp) (ho : PE X o ta) (room : Room k X.A) (pass : Passes CX X E) (ha : PA X (e :: es) t)
    (d1 : starEach (e :: es) X.env = (false, eval e X.env) :: starEach es X.env := by rfl) (d2 : (backTo pos (starEach es X.env)).any (·.1) = false := by rfl)
    (d3 : eval (.Call (.Attribute o m apos) (e :: es) [] pos) X.env = (do
      let ov ← eval o X.env
      standAt apos.atName
      let (f, first) ← holding [ov] (getMethod ov m pl)
      callWith pos f first (backTo pos (starEach (e :: es) X.env)) (backToKw pos (keywordEach [] X.env))) := by rfl) :
    PE X (.Call (.Attribute o m apos) (e :: es) [] pos) (ClX.tCMeth C sp E ta t) := by
  obtain ⟨mc, p, g, r, cm, F⟩ := c.ex
  exact ClX.pe_cmeth ho r cm F room pass ha d1 d2 d3
def tMakeL (C : Addr) (sp : Sp) (E : XK) (tf : TE) (t : TA) : TE := fun σ H Q => tf σ H fun v H1 => v = .ref C ∧ tMake C sp [] E t σ H1 Q
theorem pe_makeL {CX : CXT} {k : Nat} {C : Addr} {x y : Str} {ps : List Str} {sp : Sp} {E : XK} {e : Expr} {es : List Expr} {p pos : Pos} {tf : TE} {t : TA} (c : CalleeI X.prog X.w X.K X.mg X.base CX k C y ps sp) (room : Room (k + 1) X.A) (pass : Passes CX X E) (hn : PE X (.Name x p) tf) (ha : PA X (e :: es) t)
    (d1 : starEach (e :: es) X.env = (false, eval e X.env) :: starEach es X.env := by rfl) (d2 : (backTo pos (starEach es X.env)).any (·.1) = false := by rfl) :
    PE X (.Call (.Name x p) (e :: es) [] pos) (tMakeL C sp E tf t) := by
  obtain ⟨f, fd, F, M, hm, hb⟩ := c.ex
  refine ⟨fun pins s σ H Q I h => wpAny_Call_Name_kw (thn (hn.run pins s σ H _ I h) fun u s1 r => ?_)⟩
  obtain ⟨v, H1, I1, rv, rfl, z⟩ := r
  obtain rfl : u = Value.ref C := rv
  refine PySem.W.callWith_K (h₀ := X.base) I1.ok.mod.kin M.kp (thn (ha.run pos pins s1 σ H1 _ I1 z) fun us s2 y => ?_) d1 d2
  obtain ⟨vs, H2, I2, r2, q2⟩ := y
  exact ⟨I2.kIn, run_make M F room hb .nil pass I2 r2 q2⟩
end
theorem r_cmeth {σ : L2.St} {H : Hp} {Q : VK} {C : Addr} {sp : Sp} {E : XK} {ta : TE} {t : TA} (q : ta σ H fun x H1 => x = .ref C ∧ t σ H1 fun vs H2 => sp (.ref C :: vs) H2 Q E) : ClX.tCMeth C sp E ta t σ H Q := q
theorem r_makeL {σ : L2.St} {H : Hp} {Q : VK} {C : Addr} {sp : Sp} {E : XK} {tf : TE} {t : TA} (q : tf σ H fun v H1 => v = .ref C ∧ tMake C sp [] E t σ H1 Q) : tMakeL C sp E tf t σ H Q := q
end KP

/-! KS: lists of texts compared; small helpers. -/
namespace KS
open PySem PySem.Spec PyProof.Rows L2 KB KG KO KY
theorem dp_strs {K : PySem.W.Frag} {H : Hp} : ∀ zs : List Str, DpAll K H (zs.map V.str) (zs.map PyData.str)
  | [] => .nil
  | z :: r => .cons (.str z) (dp_strs r)
theorem lay_strs : ∀ zs : List Str, (∀ z ∈ zs, PyData.strOk z = true) → PyData.canLayAll0 (zs.map PyData.str) = true
  | [], _ => rfl
  | n :: r, h => by
    show (PyData.canLay0 (.str n) && PyData.canLayAll0 (r.map PyData.str)) = true
    rw [lay_strs r fun z m => h z (List.mem_cons_of_mem _ m)]
    simp [PyData.canLay0, h n (List.mem_cons_self ..)]
theorem depth_strs : ∀ zs : List Str, PyData.depthAll (zs.map PyData.str) = 0
  | [] => rfl
  | n :: r => by
    show max (PyData.depth (.str n)) (PyData.depthAll (r.map PyData.str)) = 0
    rw [depth_strs r]; rfl
theorem shaped_strs {zs : List Str} (h : ∀ z ∈ zs, PyData.strOk z = true) : SeqAt.shaped (.list (zs.map PyData.str)) = true := by
  show (PyData.canLayAll0 (zs.map PyData.str) && decide (PyData.depthAll (zs.map PyData.str) + 1 ≤ 64)) = true
  rw [lay_strs zs h, depth_strs]; rfl
theorem eqv_strs : ∀ ns ms : List Str, PyData.eqvAll (ns.map PyData.str) (ms.map PyData.str) = decide (ns = ms)
  | [], [] => rfl
  | [], _ :: _ => rfl
  | _ :: _, [] => rfl
  | n :: r, m :: q => by
    show (PyData.eqv (.str n) (.str m) && PyData.eqvAll (r.map PyData.str) (q.map PyData.str)) = decide (n :: r = m :: q)
    rw [eqv_strs r q]
    have e : PyData.eqv (.str n) (.str m) = decide (n = m) := by
      simp only [PyData.eqv]
      by_cases h : n = m <;> simp [h]
    rw [e]
    by_cases h1 : n = m <;> by_cases h2 : r = q <;> simp [h1, h2]
theorem r_eqStrs {K : PySem.W.Frag} {H : Hp} {Q : VK} {a b : Addr} {ns ms : List Str} (h : SqL K H a (ns.map V.str)) (h' : SqL K H b (ms.map V.str)) (o1 : ∀ z ∈ ns, PyData.strOk z = true) (o2 : ∀ z ∈ ms, PyData.strOk z = true) (q : Q (.bl (decide (ns = ms))) H) : rEqD K (.ref a) (.ref b) H Q :=
  ⟨_, _, .lst h (dp_strs ns), .lst h' (dp_strs ms), shaped_strs o1, shaped_strs o2, (show Q (.bl (PyData.eqvAll (ns.map PyData.str) (ms.map PyData.str))) H by rw [eqv_strs]; exact q)⟩
theorem r_neStrs {K : PySem.W.Frag} {H : Hp} {Q : VK} {a b : Addr} {ns ms : List Str} (h : SqL K H a (ns.map V.str)) (h' : SqL K H b (ms.map V.str)) (o1 : ∀ z ∈ ns, PyData.strOk z = true) (o2 : ∀ z ∈ ms, PyData.strOk z = true) (q : Q (.bl (!decide (ns = ms))) H) : rNeD K (.ref a) (.ref b) H Q :=
  ⟨_, _, .lst h (dp_strs ns), .lst h' (dp_strs ms), shaped_strs o1, shaped_strs o2, (show Q (.bl (!PyData.eqvAll (ns.map PyData.str) (ms.map PyData.str))) H by rw [eqv_strs]; exact q)⟩
theorem r_sls {H : Hp} {Q : VK} {z : Str} {lo hi : Option Int} (h : z.length ≤ sizeLine) (q : Q (.str (cutS z lo hi)) H) : rSlS (.str z) lo hi H Q := ⟨z, rfl, h, q⟩
theorem rep_map {n : Nat} (z : Str) : (List.replicate ((n : Nat) : Int).toNat [V.str z]).flatten = (List.replicate n z).map V.str := by
  rw [Int.toNat_natCast]
  induction n with
  | zero => rfl
  | succ n ih => rw [List.replicate_succ, List.flatten_cons, ih, List.replicate_succ]; rfl
theorem all_rep {zs : List Str} {z : Str} (h : ∀ y ∈ zs, y = z) : zs = List.replicate zs.length z := List.eq_replicate_of_mem h
/-! ### repr of a value of a kind -/
section
variable {X : Cx}
def rReprOd : List V → Hp → VK → Prop := fun xs H Q => ∃ (v : V) (t : Dt), xs = [v] ∧ OdAt H v t ∧ t.d.showable = true ∧ t.d.depth ≤ 60 ∧ t.d.shown.length ≤ sizeLine ∧ Q (.str t.d.shown) H
theorem call_reprOd {k : Nat} (fr : Free X.A) (room : Room k X.A) : CallR X (.builtin "repr") rReprOd := by
  intro pins st σ h xs us Z inv rel pre
  obtain ⟨v, t, rfl, od, ok, deep, sz, z⟩ := pre
  obtain ⟨u, rfl, rv⟩ := vals_one rel
  obtain ⟨as, rd, ns⟩ := od_reads inv od rv
  by_cases nod : t.d.hasDict = false
  · exact KG.repr_data rd ok nod sz fr (by have := room.un; omega) fun h' t1 tk kp => ⟨.str t.d.shown, h, inv.kept kp, ⟨t1, rfl⟩, z⟩
  · cases t with
    | dct l =>
      obtain ⟨a, rfl, e⟩ := id od
      obtain rfl : u = Value.ref a := rv
      exact repr_of_reads' rd ok ns fr (by have := room.un; omega) (fun _ _ e => e) (fun h' t1 tk kp => ⟨.str _, h, inv.kept kp, ⟨t1, rfl⟩, z⟩) sz
    | sc s => exact absurd (noD_sc s) nod
    | tup l => exact absurd (show PyData.hasDictAll _ = false from noD_scs l) nod
    | lst l => exact absurd (show PyData.hasDictAll _ = false from noD_scs l) nod
end
end KS

/-! KT: sets of ints made of lists; enumerate over texts and tuples; keywords at own objects and classmethods. -/
namespace KT
open PySem PySem.Spec PyProof.Rows L2 KB KG KO KY
/-! ### set(l) of a list of ints -/
def freshSet (w : World) : Obj := { cls := .type "set", dict := none, data := .set #[] 0 (.fresh 0 0 (!w.params.followText "set-order")) }
section
variable {P : Program} {w : World} {A : Around} {E : Value → Shared → Prop} {s : Shared}
theorem set_ofL {l : Addr} {items : Array Value} (ns : List Int) {Z : Value → Shared → Prop} (calm : A.handled = none) (isL : s.heap.IsList l items) (allI : IntsAre items.toList ns) (few : ns.length + 1 < scanBound)
    (fin : ∀ (h' : Heap) (tk c : Nat), SetR w h' s.heap.objs.size (fun j => decide (j ∈ ns)) c → c ≤ ns.length → (∀ b o, s.heap.get? b = some o → h'.get? b = some o) → Z (.ref s.heap.objs.size) { s with heap := h', toks := tk }) :
    wpAny (model P w) A (call (.type "set") [.ref l]) Z E s := by
  have size : items.size = ns.length := (Array.length_toList ▸ allI.length : items.size = ns.length)
  obtain ⟨c0, tl0, mro0⟩ := F.called_set.mro
  have made0 := F.called_set.made
  have sub0 := F.called_set.sub
  refine wpAny_call (codeAny_of_tree ?_)
  show wpAny _ _ (callAny (.type "set") _) _ _ _
  refine wpAny_pure ⟨Code.quiet_builtin _ (by decide +kernel), codeAny_builtin F.entry_type_call ?_⟩
  rw [Around.under_plain (weight_type_call_type "set" [.ref l] []) rfl]
  have nt0 := F.called_set.notType
  have cc0 := F.called_set.canCreate
  have tc0 := F.typeCall_set_1 (.ref l)
  repeat (any_goals (first | assumption | wp_step))
  refine codeAny_mono (code_set_led1 (.ref l) (E := E) (Q₁ := fun ob s1 => ob = .ref s.heap.objs.size ∧ s1 = { s with heap := s.heap.push (freshSet w) }) ⟨rfl, rfl⟩) fun res s1 hres => ?_
  match res, hres with
  | .error e, hres => exact hres
  | .ok .next, hres => exact hres.elim
  | .ok .brk, hres => exact hres.elim
  | .ok .cont, hres => exact hres.elim
  | .ok (.ret ob), hres =>
    obtain ⟨rfl, rfl⟩ := hres
    have atS : (s.heap.push (freshSet w)).get? s.heap.objs.size = some (freshSet w) := Heap.get?_push_size _ rfl
    have tyS : Shared.TypeIs { s with heap := s.heap.push (freshSet w) } (.ref s.heap.objs.size) "set" := ⟨_, atS, rfl⟩
    have li0 := F.called_set.init.lookup
    have bi0 := F.called_set.init.bind (.ref s.heap.objs.size)
    repeat (any_goals (first | assumption | wp_step))
    refine codeAny_mono (codeAny_call_builtin (R := wants (fun u s2 => u = .none ∧ ∃ h' tk c, s2 = { s with heap := h', toks := tk } ∧ SetR w h' s.heap.objs.size (fun j => decide (j ∈ ns)) c ∧ c ≤ ns.length ∧ ∀ b o, s.heap.get? b = some o → h'.get? b = some o) E) F.called_set.init.plain F.entry_set_init (check_set_init_1 tyS ?_)) fun res2 s2 hres2 => ?_
    · obtain ⟨⟨lc, ld, lda, lsl⟩, lat, lcl, ln, ldd⟩ := isL
      simp only at lcl ldd
      subst lcl ldd
      have lat2 : (s.heap.push (freshSet w)).get? l = some { cls := .type "list", dict := ld, data := .seq items ln, slots := lsl } := Heap.get?_push_of_some _ lat
      have sls := F.sub_list_set
      have slf := F.sub_list_frozenset
      have lnd : (Value.type "list" == Value.type "dict") = false := by decide
      have isL2 : (s.heap.push (freshSet w)).IsList l items := ⟨_, lat2, rfl, ln, rfl⟩
      unfold Builtin.«set.__init__» noKeywords Builtin.Frozenset.updateFrom
      generalize hPI : pyIter = PI
      wp_walk
      subst hPI
      refine wpAny_pyIter_list isL2 ?_
      refine wpAny_bind (wpAny_runValue ?_)
      have lt0 : l < s.heap.objs.size := Heap.lt_size lat
      have calm3 : A.in1.in1.in1.handled = none := by simp [calm]
      have sz1 : (s.heap.push (freshSet w)).objs.size = s.heap.objs.size + 1 := Heap.size_push ..
      have ne1 : l ≠ (s.heap.push (freshSet w)).objs.size := by rw [sz1]; exact Nat.ne_of_lt (Nat.lt_succ_of_lt lt0)
      have off1 : s.heap.objs.size ∉ [(s.heap.push (freshSet w)).objs.size, l] := by
        rw [sz1]
        simp only [List.mem_cons, List.not_mem_nil, or_false, not_or]
        exact ⟨Nat.ne_of_lt (Nat.lt_succ_self _), Nat.ne_of_gt lt0⟩
      have vals1 : ∀ (i : Nat) (v : Value), items[i]? = some v → ∃ k t, ns[i]? = some k ∧ v = .int k t := fun i v hv => by
        have hi : i < ns.length := size ▸ (Array.getElem?_eq_some_iff.mp hv).1
        obtain ⟨t, e⟩ := PyProof.Rows.IntsAre.int_at allI i v ((Array.getElem?_toList ..).trans hv)
        refine ⟨ns[i], t, List.getElem?_eq_getElem hi, e.trans ?_⟩
        rw [List.getD_eq_getElem?_getD, List.getElem?_eq_getElem hi]
        rfl
      refine set_update_ints ((Walks.list calm3 _ l ne1 items).toS) s.heap.objs.size off1 ns size few vals1 (items.size - 0) 0 _ (by omega) (Nat.zero_le _) ⟨⟨_, Heap.get?_push_size _ rfl, rfl, rfl⟩, isL2.at fun o e => Heap.get?_push_of_some _ e⟩ ?S0 ?SR
      case S0 => exact ⟨0, Nat.le_refl 0, setR_new_at (Heap.get?_push_of_some _ atS)⟩
      case SR =>
        intro s3 c3 mv le3 R3
        obtain ⟨h3, g3, d3, tk3, os3⟩ := s3
        obtain rfl : g3 = s.gens := mv.gens
        obtain rfl : d3 = s.drawn := mv.drawn
        obtain rfl : os3 = s.os := mv.os
        show wpAny _ _ _ _ _ _
        refine wpAny_pure ?_
        show wpAny _ _ (ret Value.none) _ _ _
        refine wpAny_pure ⟨rfl, h3, tk3, c3, rfl, R3, size ▸ le3, fun b o e => ?_⟩
        have lb : b < s.heap.objs.size := Heap.lt_size e
        refine mv.heap b o ?_ (Heap.get?_push_of_some _ (Heap.get?_push_of_some _ e))
        simp only [List.mem_cons, List.not_mem_nil, or_false, not_or]
        exact ⟨Nat.ne_of_lt lb, fun z => absurd (z.trans sz1) (Nat.ne_of_lt (Nat.lt_succ_of_lt lb))⟩
    · match res2, hres2 with
      | .error e, hres2 => exact hres2
      | .ok .next, hres2 => exact hres2.elim
      | .ok .brk, hres2 => exact hres2.elim
      | .ok .cont, hres2 => exact hres2.elim
      | .ok (.ret u), hres2 =>
        obtain ⟨rfl, h3, tk3, c3, rfl, R3, le3, kp3⟩ := hres2
        repeat (any_goals (first | assumption | wp_step))
        exact fin _ _ _ R3 le3 kp3
end
section
variable {X : Cx}
def rSetOfI (K : PySem.W.Frag) (w : World) : List V → Hp → VK → Prop := fun xs H Q => ∃ (l : Addr) (ns : List Int), xs = [.ref l] ∧ (SqL K H l (ns.map V.int) ∨ SqT K H l (ns.map V.int)) ∧ ns.length ≤ 1000 ∧ ∀ p n, H p = none → n ≤ ns.length → Q (.ref p) (upd H p (SetO w p (fun j => decide (j ∈ ns)) n))
theorem cr_setOfI (calm : X.calm = true) : CallR X (.type "set") (rSetOfI X.K X.w) := by
  intro pins st σ h xs us Z inv rel pre
  obtain ⟨l, ns, rfl, sq, few, q⟩ := pre
  obtain ⟨u, rfl, rv⟩ := vals_one rel
  obtain rfl : u = Value.ref l := rv
  have hd := inv.ok.hd calm
  have fin : ∀ (h' : Heap) (tk c : Nat), SetR X.w h' st.heap.objs.size (fun j => decide (j ∈ ns)) c → c ≤ ns.length → (∀ b o, st.heap.get? b = some o → h'.get? b = some o) → EP X pins σ Z (.ref st.heap.objs.size) { st with heap := h', toks := tk } := fun h' tk c R le kp =>
    ⟨.ref _, upd h st.heap.objs.size (SetO X.w st.heap.objs.size (fun j => decide (j ∈ ns)) c), inv.laid (t' := tk) kp (Nat.le_refl _) (setO_new R), rfl, q _ c (inv.hok.fresh (Nat.le_refl _)) le⟩
  rcases sq with sq | sq
  · obtain ⟨its, r, pl, _⟩ := inv.list sq
    exact set_ofL ns hd pl.isList (by simpa using RZ.intsAre_vals r) (by unfold scanBound; omega) fin
  · obtain ⟨its, r, pt, _⟩ := inv.tuple sq
    exact call_set_tupI ns hd (show st.heap.IsTuple l its.toArray from pt) (by simpa using RZ.intsAre_vals r) (by unfold scanBound; omega) fin
/-- the ints of a list, each once, ascending -/
theorem sorted_unique {a b : List Int} (ha : a.Pairwise (· < ·)) (hb : b.Pairwise (· < ·)) (h : ∀ k, k ∈ a ↔ k ∈ b) : a = b := by
  induction a generalizing b with
  | nil =>
    cases b with
    | nil => rfl
    | cons y b => exact absurd ((h y).mpr (List.mem_cons_self ..)) List.not_mem_nil
  | cons x a ih =>
    cases b with
    | nil => exact absurd ((h x).mp (List.mem_cons_self ..)) List.not_mem_nil
    | cons y b =>
      have hx := List.pairwise_cons.mp ha
      have hy := List.pairwise_cons.mp hb
      have e : x = y := by
        rcases List.mem_cons.mp ((h x).mp (List.mem_cons_self ..)) with e | m
        · exact e
        · rcases List.mem_cons.mp ((h y).mpr (List.mem_cons_self ..)) with e | m2
          · exact e.symm
          · have := hy.1 x m; have := hx.1 y m2; omega
      subst e
      congr 1
      refine ih hx.2 hy.2 fun k => ?_
      constructor
      · intro m
        rcases List.mem_cons.mp ((h k).mp (List.mem_cons_of_mem _ m)) with e | m2
        · have := hx.1 k m; omega
        · exact m2
      · intro m
        rcases List.mem_cons.mp ((h k).mpr (List.mem_cons_of_mem _ m)) with e | m2
        · have := hy.1 k m; omega
        · exact m2
end
/-! ### enumerate over a text, over a tuple -/
def ItES (z : Str) : It := ⟨fun i _ => i < z.cps.size, fun i H v H' => ∃ T c, v = .ref T ∧ H T = none ∧ H' = upd H T (.tup [.int (i : Nat), .str ⟨#[c]⟩]) ∧ z.cps[i]? = some c, fun i _ => i = z.cps.size⟩
def ItET (K : PySem.W.Frag) (a : Addr) : It :=
  ⟨fun i H => ∃ (xs : List V) (x : V), SqT K H a xs ∧ xs[i]? = some x, fun i H v H' => ∃ T x, v = .ref T ∧ H T = none ∧ H' = upd H T (.tup [.int (i : Nat), x]) ∧ ∀ xs, SqT K H a xs → xs[i]? = some x, fun i H => ∃ xs : List V, SqT K H a xs ∧ xs.length = i⟩
section
variable {P : Program} {w : World} {K : PySem.W.Frag}
theorem two_obj {h : Heap} {e it : Addr} {oe oi : Obj} (h1 : h.get? e = some oe) (h2 : h.get? it = some oi) (n1 : ∀ v, oe.data ≠ .cell v) (n2 : ∀ v, oi.data ≠ .cell v) : ∀ b ∈ [e, it], ∃ o, h.get? b = some o ∧ ∀ v, o.data ≠ .cell v := fun b hb => by
  rcases List.mem_cons.mp hb with rfl | hb
  · exact ⟨_, h1, n1⟩
  · rw [List.mem_singleton.mp hb]; exact ⟨_, h2, n2⟩
/-- a new pair has come -/
theorem pair_new {X : Cx} {pins : List (Addr × Obj)} {σ : L2.St} {H : Hp} {s : Shared} {e it : Addr} {x : V} {u : Value} {i tk : Nat} {h1 h2 : Heap} (I : Inv X pins σ H s) (fp : ∀ b ∈ [e, it], FpOk X pins H b) (le : e < s.heap.objs.size) (li : it < s.heap.objs.size) (ru : RelV x u)
    (pr : h1.get? s.heap.objs.size = some { cls := .type "tuple", data := .seq #[.int i tk, u] }) (kp : ∀ b o, b ≠ e → b ≠ it → s.heap.get? b = some o → h1.get? b = some o) (sb : Heap.SameBut e h1 h2) :
    Inv X pins σ (upd H s.heap.objs.size (.tup [.int (i : Nat), x])) { s with heap := h2, toks := tk + 1 } ∧ H s.heap.objs.size = none ∧ ∀ b ∈ [e, it], upd H s.heap.objs.size (.tup [.int (i : Nat), x]) b = none := by
  have pr2 := (sb.2 _ (Nat.ne_of_gt le)).trans pr
  have ok : ObjOk X.prog X.w (upd H s.heap.objs.size (.tup [.int (i : Nat), x])) h2 s.heap.objs.size (.tup [.int (i : Nat), x]) := ⟨(by show 2 ≤ sizeLine; decide), [.int i tk, u], .cons ⟨_, rfl⟩ (.cons ru .nil), ⟨_, pr2, rfl, _, rfl⟩⟩
  refine ⟨I.turnedNew (ch := [e, it]) (fun b ob hb q => (sb.2 b (fun z => hb (by simp [z]))).trans (kp b ob (fun z => hb (by simp [z])) (fun z => hb (by simp [z])) q)) fp (Nat.le_refl _) ok, I.hok.fresh (Nat.le_refl _), fun b hb => ?_⟩
  have lb : b < s.heap.objs.size := by
    rcases List.mem_cons.mp hb with rfl | hb
    · exact le
    · rw [List.mem_singleton.mp hb]; exact li
  rw [upd_ne (Nat.ne_of_lt lb)]
  exact (fp b hb).1
theorem turn_enumS {elts : List Expr} {kk : Nat} {tpos : Pos} (z : Str) (t : Tok) (e it : Addr) :
    Turn P w K (.Tuple elts kk tpos) (ItES z) [e, it] e (fun i h => (∃ old, IsEnum h e it ((i : Nat) : Int) old) ∧ h.IsStrIter it (strIterType z) z t i ∧ e ≠ it) where
  mem := List.mem_cons_self
  obj := fun i h st => by
    obtain ⟨⟨old, he⟩, ⟨o, ho, _, hd⟩, _⟩ := st
    exact two_obj he ho (fun v q => nomatch q) (fun v q => by rw [hd] at q; cases q)
  keep := fun i h h' st k => by
    obtain ⟨⟨old, he⟩, ⟨o, ho, r⟩, ne⟩ := st
    exact ⟨⟨old, k e (by simp) _ he⟩, ⟨o, k it (by simp) o ho, r⟩, ne⟩
  item := by
    intro X e1 e2 e3 calm i pins s σ H E I fp st go
    subst e1 e2 e3
    obtain ⟨⟨old, he⟩, hit, ne⟩ := st
    have li : it < s.heap.objs.size := by obtain ⟨_, q, _⟩ := hit; exact Heap.lt_size q
    have hd : X.A.in1.handled = none := I.ok.hd calm
    refine wpAny_pyNext_enum_itemD (Draws.text hd it z t) he hit go ne (by simpa using ne) fun x h1 tk hx out hit1 pr _ kp => ?_
    obtain ⟨c, u, hc, rfl⟩ := hx
    refine ⟨_, rfl, wpAny_letOwnedTupleGo_enum (s := { s with heap := h1, toks := tk + 1 }) out fun h2 he2 sb => ?_⟩
    obtain ⟨I2, fr, no⟩ := pair_new (x := .str ⟨#[c]⟩) I fp (Heap.lt_size he) li ⟨u, rfl⟩ pr kp sb
    refine ⟨.ref s.heap.objs.size, _, I2, rfl, ⟨_, c, rfl, fr, rfl, hc⟩, ⟨⟨_, he2⟩, ?_, ne⟩, no⟩
    obtain ⟨o, ho, r⟩ := hit1
    exact ⟨o, (sb.2 it (Ne.symm ne)).trans ho, r⟩
  done := by
    intro X e1 e2 e3 calm i pins s σ H E I fp st stop
    subst e1 e2 e3
    obtain ⟨⟨old, he⟩, hit, ne⟩ := st
    obtain ⟨f0, f1, f2, f3, f4, f5⟩ := fp it (by simp)
    have hd : X.A.in1.handled = none := I.ok.hd calm
    refine wpAny_pyNext_enum_endD (Draws.text hd it z t) he (stop ▸ hit) fun h' eb => ⟨rfl, I.turned (t' := s.toks) (fun b o hb q => eb b o hb q) f0 f1 f3 f4 f5⟩
  self := fun A i s Q E st h => by
    obtain ⟨⟨_, he⟩, _⟩ := st
    exact wpAny_pyIter_enum he h
theorem turn_enumT {elts : List Expr} {kk : Nat} {tpos : Pos} (a e it : Addr) :
    Turn P w K (.Tuple elts kk tpos) (ItET K a) [e, it] e (fun i h => (∃ old, IsEnum h e it ((i : Nat) : Int) old) ∧ h.IsTupleIter it a i ∧ e ≠ it ∧ e ≠ a ∧ a ≠ it) where
  mem := List.mem_cons_self
  obj := fun i h st => by
    obtain ⟨⟨old, he⟩, ⟨o, ho, _, hd⟩, _⟩ := st
    exact two_obj he ho (fun v q => nomatch q) (fun v q => by rw [hd] at q; cases q)
  keep := fun i h h' st k => by
    obtain ⟨⟨old, he⟩, ⟨o, ho, r⟩, ne⟩ := st
    exact ⟨⟨old, k e (by simp) _ he⟩, ⟨o, k it (by simp) o ho, r⟩, ne⟩
  item := by
    intro X e1 e2 e3 calm i pins s σ H E I fp st go
    subst e1 e2 e3
    obtain ⟨⟨old, he⟩, hit, ne, nea, nai⟩ := st
    obtain ⟨xs, x, sq, hx⟩ := go
    obtain ⟨its, rv, pt, _⟩ := I.tuple sq
    obtain ⟨u, hu, ru⟩ := rv.get hx
    have li : it < s.heap.objs.size := by obtain ⟨_, q, _⟩ := hit; exact Heap.lt_size q
    have hd : X.A.in1.handled = none := I.ok.hd calm
    have lt : i < its.toArray.size := by
      rw [List.size_toArray]
      exact (List.getElem?_eq_some_iff.mp hu).1
    refine wpAny_pyNext_enum_itemD (Draws.tuple hd it a nai its.toArray) he ⟨hit, (show s.heap.IsTuple a its.toArray from pt)⟩ lt ne (by simp [ne, nea]) fun y h1 tk hy out hit1 pr _ kp => ?_
    obtain rfl : y = u := by
      have hy' : its.toArray[i]? = some y := hy
      rw [List.getElem?_toArray, hu] at hy'
      exact (Option.some.inj hy').symm
    refine ⟨_, rfl, wpAny_letOwnedTupleGo_enum (s := { s with heap := h1, toks := tk + 1 }) out fun h2 he2 sb => ?_⟩
    obtain ⟨I2, fr, no⟩ := pair_new (x := x) I fp (Heap.lt_size he) li ru pr kp sb
    refine ⟨.ref s.heap.objs.size, _, I2, rfl, ⟨_, x, rfl, fr, rfl, fun ys hy2 => ?_⟩, ⟨⟨_, he2⟩, ?_, ne, nea, nai⟩, no⟩
    · rw [I.tuple_inj hy2 sq]; exact hx
    · obtain ⟨o, ho, r⟩ := hit1.1
      exact ⟨o, (sb.2 it (Ne.symm ne)).trans ho, r⟩
  done := by
    intro X e1 e2 e3 calm i pins s σ H E I fp st stop
    subst e1 e2 e3
    obtain ⟨⟨old, he⟩, hit, ne, nea, nai⟩ := st
    obtain ⟨xs, sq, hl⟩ := stop
    obtain ⟨its, rv, pt, _⟩ := I.tuple sq
    obtain ⟨f0, f1, f2, f3, f4, f5⟩ := fp it (by simp)
    have hd : X.A.in1.handled = none := I.ok.hd calm
    have sz : its.toArray.size = i := by rw [List.size_toArray, ← rv.length, hl]
    refine wpAny_pyNext_enum_endD (Draws.tuple hd it a nai its.toArray) he ⟨sz ▸ hit, (show s.heap.IsTuple a its.toArray from pt)⟩ fun h' eb => ⟨rfl, I.turned (t' := s.toks) (fun b o hb q => eb b o hb q) f0 f1 f3 f4 f5⟩
  self := fun A i s Q E st h => by
    obtain ⟨⟨_, he⟩, _⟩ := st
    exact wpAny_pyIter_enum he h
end
section
abbrev iterT (l : Addr) : Obj := { cls := .type "tuple_iterator", data := .fields #[.ref l, .int 0 0] }
abbrev enumO (n : Addr) : Obj := { cls := .type "enumerate", data := .fields #[.none, .bool false, .ref n, rawInt 0, .none, .none] }
open AutoSeq1 (wpAny_loadPart') in
theorem enum_newT (l : Addr) (items : Array Value) (n : Nat) (dct : Option Addr) (sl : Array (Option Value)) :
    Meets (Builtin.«enumerate.__new__» ⟨[.type "enumerate", .ref l], []⟩) (fun _ R s => s.heap.get? l = some { cls := .type "tuple", dict := dct, data := .seq items n, slots := sl } ∧
      R (.ok (.ret (.ref (s.heap.push (iterT l)).objs.size))) { s with heap := (s.heap.push (iterT l)).push (enumO s.heap.objs.size) }) :=
  .of_wp fun prog w A R s pre => by
    obtain ⟨hp, g, d, tk, os⟩ := s
    obtain ⟨at0, fin⟩ := pre
    have sub0 := sub_enumerate
    have isT : Heap.IsTuple (Shared.heap ⟨hp, g, d, tk, os⟩) l items := ⟨_, at0, rfl, n, rfl⟩
    wp_walk using wpAny_loadPart' at0
    refine wpAny_stack_any fun stk => wpAny_pure ?_
    split
    · rename_i cl _ _ _ _ _
      cases (cl == Value.type "enumerate")
      · wp_walk using wpAny_loadPart' at0, wpAny_pyIter_tuple isT
        exact ⟨_, rfl, fin⟩
      · wp_walk using wpAny_loadPart' at0, wpAny_pyIter_tuple isT
        exact ⟨_, rfl, fin⟩
    · wp_walk using wpAny_loadPart' at0, wpAny_pyIter_tuple isT
      exact ⟨_, rfl, fin⟩
theorem enum_tuple {prog : Program} {w : World} {A : Around} {E : Value → Shared → Prop} {s : Shared} {l : Addr} {items : Array Value} {Z : Value → Shared → Prop} (isT : s.heap.IsTuple l items)
    (fin : ∀ h', IsEnum h' (s.heap.objs.size + 1) s.heap.objs.size 0 .none → h'.IsTupleIter s.heap.objs.size l 0 → (∀ b o, s.heap.get? b = some o → h'.get? b = some o) → Z (.ref (s.heap.objs.size + 1)) { s with heap := h' }) :
    wpAny (model prog w) A (call (.type "enumerate") [.ref l]) Z E s := by
  obtain ⟨⟨oc, od, oda, osl⟩, at0, oc1, n, od1⟩ := isT
  simp only at oc1 od1
  subst oc1 od1
  refine callType_new F.called_enumerate (by decide) (F.typeCall_enumerate_1 _) (F.newCall_enumerate_1 _) (fun ob => F.args_object_init_2 ob _) F.entry_enumerate_new (enum_newT l items n od osl) ⟨at0, ?_⟩
  have sz : (s.heap.push (iterT l)).objs.size = s.heap.objs.size + 1 := Heap.size_push ..
  show _ ∧ _
  rw [sz]
  have en : IsEnum ((s.heap.push (iterT l)).push (enumO s.heap.objs.size)) (s.heap.objs.size + 1) s.heap.objs.size 0 .none := by
    have z := Heap.get?_push_size (s.heap.push (iterT l)) (o := enumO s.heap.objs.size) rfl
    rw [sz] at z
    exact z
  exact ⟨⟨_, en, rfl⟩, fin _ en ⟨_, Heap.get?_push_of_some _ (Heap.get?_push_size _ rfl), rfl, rfl⟩ fun b o x => Heap.get?_push_of_some _ (Heap.get?_push_of_some _ x)⟩
end
section
variable {X : Cx} {e : Expr} {ta : TA} {p pos tpos : Pos} {elts : List Expr} {kk : Nat}
def iEnumS (ta : TA) : TI := fun σ H R => ta σ H fun vs H1 => ∃ z, vs = [.str z] ∧ R (ItES z) H1
def iEnumT (K : PySem.W.Frag) (ta : TA) : TI := fun σ H R => ta σ H fun vs H1 => ∃ a xs, vs = [.ref a] ∧ SqT K H1 a xs ∧ R (ItET K a) H1
theorem two_new {pins : List (Addr × Obj)} {σ : L2.St} {H : Hp} {s : Shared} (I : Inv X pins σ H s) : ∀ b ∈ [s.heap.objs.size + 1, s.heap.objs.size], FpOk X pins H b := fun b hb => by
  have le : s.heap.objs.size ≤ b := by
    rcases List.mem_cons.mp hb with rfl | hb
    · exact Nat.le_add_right _ _
    · rw [List.mem_singleton.mp hb]; exact Nat.le_refl _
  exact I.fpOk le (I.hok.fresh le)
theorem pi_enumS (hg : Gl X "enumerate") (hm : X.mg "enumerate" = none) (ha : PA X [e] ta) (hs : starEach [e] X.env = [(false, eval e X.env)] := by rfl) : PI X (.Tuple elts kk tpos) (.Call (.Name "enumerate" p) [e] [] pos) (iEnumS ta) := by
  refine ⟨fun pins s σ H R I h => ?_⟩
  refine Call_ (ld_blt I hg hm boot_enumerate (PyProof.Rows.callWith_type1 (thn (ha.run pos pins s σ H _ I h) fun us s1 res => ?_) hs rfl))
  obtain ⟨vs, H1, I1, r1, z, rfl, q⟩ := res
  obtain ⟨u, rfl, ru⟩ := vals_one r1
  obtain ⟨t, rfl⟩ := (show ∃ t, u = Value.str z t from ru)
  refine call_enumerate_str fun h' en hit _ kp => wpAny_pyIter_enum en ?_
  exact ⟨s1.heap.objs.size + 1, [s1.heap.objs.size + 1, s1.heap.objs.size], _, _, H1, rfl, I1.kept (t' := s1.toks) kp, turn_enumS z t (s1.heap.objs.size + 1) s1.heap.objs.size, ⟨⟨.none, en⟩, hit, Nat.succ_ne_self _⟩, two_new I1, q⟩
theorem pi_enumT (hg : Gl X "enumerate") (hm : X.mg "enumerate" = none) (ha : PA X [e] ta) (hs : starEach [e] X.env = [(false, eval e X.env)] := by rfl) : PI X (.Tuple elts kk tpos) (.Call (.Name "enumerate" p) [e] [] pos) (iEnumT X.K ta) := by
  refine ⟨fun pins s σ H R I h => ?_⟩
  refine Call_ (ld_blt I hg hm boot_enumerate (PyProof.Rows.callWith_type1 (thn (ha.run pos pins s σ H _ I h) fun us s1 res => ?_) hs rfl))
  obtain ⟨vs, H1, I1, r1, a, xs, rfl, sq, q⟩ := res
  obtain ⟨u, rfl, ru⟩ := vals_one r1
  obtain rfl : u = Value.ref a := ru
  obtain ⟨its, rv, pt, _⟩ := I1.tuple sq
  have isT : s1.heap.IsTuple a its.toArray := pt
  have la : a < s1.heap.objs.size := by obtain ⟨o, ho, _⟩ := isT; exact Heap.lt_size ho
  refine enum_tuple isT fun h' en hit kp => wpAny_pyIter_enum en ?_
  exact ⟨s1.heap.objs.size + 1, [s1.heap.objs.size + 1, s1.heap.objs.size], _, _, H1, rfl, I1.kept (t' := s1.toks) kp, turn_enumT a (s1.heap.objs.size + 1) s1.heap.objs.size, ⟨⟨.none, en⟩, hit, Nat.succ_ne_self _, Nat.ne_of_gt (Nat.lt_succ_of_lt la), Nat.ne_of_lt la⟩, two_new I1, q⟩
end
/-! ### walks -/
theorem walk_enumS {z : Str} : Walk (ItES z) z.cps.size (fun _ => True) (fun i H v H' => ∃ T c, v = .ref T ∧ H T = none ∧ H' = upd H T (.tup [.int (i : Nat), .str ⟨#[c]⟩]) ∧ z.cps[i]? = some c) := ⟨fun _ _ hi _ => hi, fun _ _ => rfl, fun _ _ _ _ _ _ y => y⟩
theorem walk_enumT {K : PySem.W.Frag} {a : Addr} {xs : List V} : Walk (ItET K a) xs.length (fun H => SqT K H a xs) (fun i H v H' => ∃ T x, v = .ref T ∧ H T = none ∧ H' = upd H T (.tup [.int (i : Nat), x]) ∧ xs[i]? = some x) :=
  ⟨fun i _ hi q => ⟨xs, xs[i], q, by simp [hi]⟩, fun _ q => ⟨xs, q, rfl⟩, fun _ _ _ _ _ q y => by obtain ⟨T, x, h1, h2, h3, h4⟩ := y; exact ⟨T, x, h1, h2, h3, h4 xs q⟩⟩
/-- a loop of a generator, by the walk -/
theorem gforW {J : It} {n : Nat} {G : Hp → Prop} {Y : Nat → Hp → V → Hp → Prop} (wk : Walk J n G Y) {g : TG} {tb : TGn} {D : GEnds} {ys : List V} {σ : L2.St} {H : Hp} (Pv : Nat → List V → L2.St → Hp → Prop) (h0 : Pv 0 ys σ H) (hG : ∀ i ys σ H, i ≤ n → Pv i ys σ H → G H)
    (hs : ∀ i x ys σ H H', i < n → Pv i ys σ H → Y i H x H' → g x σ H' fun σ2 H2 => tb { D with nx := Pv (i + 1), ct := Pv (i + 1), bk := D.nx } ys σ2 H2) (hd : ∀ ys σ H, Pv n ys σ H → D.nx ys σ H) :
    ∃ W : Nat → Nat → List V → L2.St → Hp → Prop, (∃ m, W 0 m ys σ H) ∧ ∀ i m ys σ H, W i m ys σ H → (J.stop i H ∧ D.nx ys σ H) ∨ (J.go i H ∧ ∃ N : List V → L2.St → Hp → Prop, (∀ ys' σ' H', N ys' σ' H' → ∃ m', m' < m ∧ W (i + 1) m' ys' σ' H') ∧ ∀ x H', J.yld i H x H' → g x σ H' fun σ2 H2 => tb { D with nx := N, ct := N, bk := D.nx } ys σ2 H2) := by
  refine ⟨fun i m ys σ H => m = n - i ∧ i ≤ n ∧ Pv i ys σ H, ⟨n, by simp, Nat.zero_le _, h0⟩, ?_⟩
  rintro i m ys σ H ⟨rfl, hi, p⟩
  have q := hG i ys σ H hi p
  by_cases lt : i < n
  · exact .inr ⟨wk.goes i H lt q, Pv (i + 1), fun ys' σ' H' p' => ⟨n - (i + 1), by omega, rfl, lt, p'⟩, fun x H' y => hs i x ys σ H H' lt p (wk.yields i H x H' lt q y)⟩
  · obtain rfl : i = n := by omega
    exact .inl ⟨wk.stops H q, hd ys σ H p⟩
end KT

/-! KGen: if and for within a generator def. -/
namespace KGen
open PySem PySem.Spec PyProof.Rows L2 GenW
section
variable {X : Cx}
/-! ### if -/
def tGIf (tc : TT) (t1 t2 : TGn) : TGn := fun D ys σ H => tc σ H fun b H1 => if b = true then t1 D ys σ H1 else t2 D ys σ H1
theorem gs_if {test : Expr} {b1 b2 : List Stmt} {pos : Pos} {tc : TT} {t1 t2 : TGn} (hc : PT X test tc) (h1 : GSs X b1 t1) (h2 : GSs X b2 t2) : GS X (.If test b1 b2 pos) (tGIf tc t1 t2) := by
  refine ⟨fun A S ip R n ys s₀ c fs K J gd lv s σ H D g hn k hI ht => ?_⟩
  obtain ⟨acc, cc, r, I⟩ := hI
  rw [exec_If]
  refine seg_bind_wrap (wpAny_standAt ?_)
  refine seg_bind_wrap ?_
  rw [g.over]
  refine wpAny_mono (hc.run _ s σ H _ I ht) (fun b s' hb => ?_) fun x s' hx => k.exc n s₀ x s' hx
  obtain ⟨H2, I2, q2⟩ := hb
  cases b with
  | true =>
    rw [if_pos rfl] at q2 ⊢
    exact h1.run A S ip R n ys s₀ c fs K J gd lv s' σ H2 D g hn k ⟨acc, cc, r, I2⟩ q2
  | false =>
    rw [if_neg Bool.false_ne_true] at q2 ⊢
    exact h2.run A S ip R n ys s₀ c fs K J gd lv s' σ H2 D g hn k ⟨acc, cc, r, I2⟩ q2
/-! ### for -/
def tGFor (wi : TI) (g : TG) (tb : TGn) : TGn := fun D ys σ H => wi σ H fun J H1 => ∃ W : Nat → Nat → List V → L2.St → Hp → Prop, (∃ m, W 0 m ys σ H1) ∧ ∀ i m ys σ H, W i m ys σ H →
  (J.stop i H ∧ D.nx ys σ H) ∨ (J.go i H ∧ ∃ N : List V → L2.St → Hp → Prop, (∀ ys' σ' H', N ys' σ' H' → ∃ m', m' < m ∧ W (i + 1) m' ys' σ' H') ∧ ∀ x H', J.yld i H x H' → g x σ H' fun σ2 H2 => tb { D with nx := N, ct := N, bk := D.nx } ys σ2 H2)
/-- what a loop does with an exception -/
abbrev noted (e : Value) (env : Env) : Sem PySem.Fin := (do noteFrame e env; theTreesLotGoes e : Sem Unit).wrap (fun _ => .raise e) .raise id id
abbrev turned (tg : Expr) (it : Value) (body : List Stmt) (env : Env) : Flow → Sem PySem.Fin := fun f => match f with
  | .next | .cont => .pure (.again (.forLoop tg it body [] env))
  | .brk => .pure (.done .next)
  | .ret v => .pure (.done (.ret v))
theorem seg_for_ {prog : Program} {w : World} {A : Around} {R : GenEnd} {Y : Protocol} {n : Nat} {s₀ : Shared} {fs : List Frame} {s : Shared} {env : Env} {tg : Expr} {it : Value} {body : List Stmt}
    (h : wpAny (model prog w) (A.over (.forLoop tg it body [] env) fs) (pyNext it) (fun r s1 => match r with
        | none => Seg (model prog w) A R Y n s₀ (.forLoop tg it body [] env) (.pure (.again (.block [] env))) fs s1
        | some v => wpAny (model prog w) (A.over (.forLoop tg it body [] env) fs) (letOwnedTupleGo tg it v) (fun _ s2 => wpAny (model prog w) (A.over (.forLoop tg it body [] env) fs) (assign tg env v) (fun _ s3 =>
            Seg (model prog w) A R Y n s₀ (.forLoop tg it body [] env) ((execs body env).wrap (turned tg it body env) (fun e => noted e env) id id) fs s3)
            (fun x s' => Seg (model prog w) A R Y n s₀ (.forLoop tg it body [] env) (noted x env) fs s') s2) (fun x s' => Seg (model prog w) A R Y n s₀ (.forLoop tg it body [] env) (noted x env) fs s') s1)
      (fun x s' => Seg (model prog w) A R Y n s₀ (.forLoop tg it body [] env) (noted x env) fs s') s) :
    Seg (model prog w) A R Y n s₀ (.forLoop tg it body [] env) ((model prog w).den (.forLoop tg it body [] env)) fs s := by
  show Seg _ A R Y n s₀ _ ((forTurn tg it body [] env).onRaise (fun x => do noteFrame x env; theTreesLotGoes x)) fs s
  have bad : ∀ (x : Value) (s' : Shared), Seg (model prog w) A R Y n s₀ (.forLoop tg it body [] env) (noted x env) fs s' → Seg (model prog w) A R Y n s₀ (.forLoop tg it body [] env) ((do noteFrame x env; theTreesLotGoes x : Sem Unit).bind fun _ => .raise x) fs s' := fun x s' hx => by
    rw [Sem.bind_eq_wrap]
    exact hx
  unfold forTurn
  rw [Sem.onRaise_eq_wrap]
  refine seg_bind_wrap (wpAny_standAt ?_)
  refine seg_bind_wrap (wpAny_onRaise (wpAny_mono h (fun r s1 h1 => ?_) fun x s' hx => wpAny_standAt (bad x s' hx)))
  cases r with
  | none => exact h1
  | some v =>
    refine seg_bind_wrap (wpAny_mono h1 (fun _ s2 h2 => ?_) fun x s' hx => bad x s' hx)
    refine seg_bind_wrap (wpAny_mono h2 (fun _ s3 h3 => ?_) fun x s' hx => bad x s' hx)
    rw [Sem.bind_eq_wrap', Sem.wrap_wrap]
    rw [Sem.wrap_congr (execs body env) _ _ (K' := turned tg it body env) (H' := fun e => noted e env) (fun f => by cases f <;> rfl) (fun e => by exact Sem.bind_eq_wrap _ _)]
    exact h3
theorem pinsAt_ne {pins : List (Addr × Obj)} {H : Hp} {fp : List Addr} {h : Heap} {S : Addr} {o : Obj} (hf : ∀ b ∈ fp, FpOk X ((S, o) :: pins) H b) : ∀ p ∈ pinsAt fp h, p.1 ≠ S := fun p hp z => by
  obtain ⟨hb, _⟩ := of_pinsAt hp
  exact (hf p.1 hb).2.2.2.2.2 (S, o) (List.mem_append_right _ List.mem_cons_self) z.symm
theorem gs_for {tg iter : Expr} {body : List Stmt} {wi : TI} {g : TG} {tb : TGn} {pos : Pos} (hp : PassesOwn (model X.prog X.w) X.A X.env X.xe) (calm : X.calm = true) (hi : PI X tg iter wi) (hg : PG X tg g) (hb : GSs X body tb)
    (hs : ∀ x, foldedSetIterable iter X.env x = pure x := by intro _; rfl) : GS X (.For tg iter body [] pos) (tGFor wi g tb) := by
  refine ⟨fun A S ip R n ys s₀ c fs K J gd lv s σ H D gc hn k hI ht => ?_⟩
  obtain ⟨acc, cc, r, I⟩ := hI
  rw [exec_For]
  refine seg_bind_wrap (wpAny_standAt ?_)
  refine seg_bind_wrap ?_
  rw [gc.over]
  refine wpAny_mono (hi.run _ s σ H _ I ht) (fun v s1 h1 => ?_) fun x s' hx => k.exc n s₀ x s' hx
  refine seg_bind_wrap (wpAny_of_eq (hs v) ?_)
  refine seg_bind_wrap (wpAny_standAt ?_)
  refine seg_bind_wrap (wpAny_holding ?_)
  rw [gc.over]
  refine wpAny_mono h1 (fun itv s2 h2 => ?_) fun x s' hx => k.exc n s₀ x s' hx
  obtain ⟨it, fp, tn, JJ, H2, rfl, I2, T, st2, f2, W, ⟨m0, w0⟩, turn⟩ := h2
  refine seg_call fun p => ?_
  have gl := fun (kk : Result → Sem PySem.Fin) => gc_loop (k := kk) (c' := .forLoop tg (.ref it) body [] X.env) (l := lv []) (kp := []) (p := p) gc rfl rfl
  have gb := fun (kk : Result → Sem PySem.Fin) => gc_loop (k := kk) (c' := .block [] X.env) (l := lv []) (kp := []) (p := p) gc rfl rfl
  have loop : ∀ (m i n : Nat) (ys : List V) (acc : Array Value) (cc : Nat) (s₀ s : Shared) (σ : L2.St) (H : Hp), Vals ys acc.toList → n + ys.length = sizeLine → W i m ys σ H → Inv X ((S, lstObj acc cc) :: ip) σ H s → tn i s.heap → (∀ b ∈ fp, FpOk X ((S, lstObj acc cc) :: ip) H b) →
      Seg (model X.prog X.w) A R (GY X S) n s₀ (.forLoop tg (.ref it) body [] X.env) ((model X.prog X.w).den (.forLoop tg (.ref it) body [] X.env))
        (.ret (fun r => ((match r with | .ok f => (.pure f : Sem Flow) | .error e => .raise e).onRaise (cameBack X.env)).wrap K J gd lv) none (gd false) (lv []) c p [] :: fs) s := by
    intro m
    induction m using Nat.strongRecOn with
    | ind m ih =>
      intro i n ys acc cc s₀ s σ H r hn w I st f
      have ee : ∀ (n : Nat) (s₀ : Shared) (x : Value) (s' : Shared), X.xe x s' → Seg (model X.prog X.w) A R (GY X S) n s₀ (.forLoop tg (.ref it) body [] X.env) (noted x X.env)
          (.ret (fun r => ((match r with | .ok f => (.pure f : Sem Flow) | .error e => .raise e).onRaise (cameBack X.env)).wrap K J gd lv) none (gd false) (lv []) c p [] :: fs) s' := fun n s₀ x s' hx => by
        refine seg_wrap ?_
        rw [(gl _).over]
        refine wpAny_bind (wpAny_mono (hp x s' hx) (fun _ s'' hcb => wpAny_theTreesLotGoes ?_) fun y s'' hcb => ?_)
        · exact seg_leaf (.error x) (seg_cameBack gc k hcb)
        · exact seg_leaf (.error y) (seg_cameBack gc k hcb)
      refine seg_for_ ?_
      rw [(gl _).over]
      rcases turn i m ys σ H w with ⟨stop, qn⟩ | ⟨go, N, hN, step⟩
      · refine wpAny_mono (T.done X rfl rfl rfl calm i _ s σ H X.xe I f st stop) (fun r' s3 hr => ?_) fun x s' hx => ee n s₀ x s' hx
        obtain ⟨rfl, I3⟩ := hr
        refine seg_again rfl ?_
        show Seg _ _ _ _ _ _ _ (((execs [] X.env).onRaise (fun x => do noteFrame x X.env; theTreesLotGoes x)) >>= fun f => pure (.done f)) _ _
        exact seg_leaf (.ok .next) (k.ok n ys s₀ s3 .next hn ⟨σ, H, ⟨acc, cc, r, I3⟩, qn⟩)
      · refine wpAny_mono (T.item X rfl rfl rfl calm i _ s σ H X.xe I f st go) (fun r' s3 hr => ?_) fun x s' hx => ee n s₀ x s' hx
        obtain ⟨u, rfl, h3⟩ := hr
        refine wpAny_mono h3 (fun _ s5 h5 => ?_) fun x s' hx => ee n s₀ x s' hx
        obtain ⟨x5, H5, I5, r5, y5, st5, fr5⟩ := h5
        have f5 : ∀ b ∈ fp, FpOk X ((S, lstObj acc cc) :: ip) H5 b := fun b hb => ⟨fr5 b hb, (f b hb).2⟩
        have I5' := I5.pinned f5 (T.obj _ _ st5)
        refine wpAny_mono (hg.run _ s5 σ H5 x5 u _ I5' r5 (step x5 H5 y5)) (fun _ s6 h6 => ?_) fun x s' hx => ee n s₀ x s' hx
        obtain ⟨σ6, H6, I6, q6⟩ := h6
        have gp : GC X S (ip ++ pinsAt fp s5.heap) A (.forLoop tg (.ref it) body [] X.env) (.ret (fun r => ((match r with | .ok f => (.pure f : Sem Flow) | .error e => .raise e).onRaise (cameBack X.env)).wrap K J gd lv) none (gd false) (lv []) c p [] :: fs) id :=
          { gl _ with ip := fun p hp => (List.mem_append.mp hp).elim (gc.ip p) (pinsAt_ne f5 p) }
        refine hb.run A S (ip ++ pinsAt fp s5.heap) R n ys s₀ _ _ _ _ id id s6 σ6 H6 { D with nx := N, ct := N, bk := D.nx } gp hn ⟨fun n' ys' s₀' s7 fl hn' hs' => ?_, fun n' s₀' x s7 hx => ee n' s₀' x s7 hx⟩ ⟨acc, cc, r, I6⟩ q6
        have again : ∀ {σ7 : L2.St} {H7 : Hp}, GI X S (ip ++ pinsAt fp s5.heap) ys' σ7 H7 s7 → N ys' σ7 H7 → Seg (model X.prog X.w) A R (GY X S) n' s₀' (.forLoop tg (.ref it) body [] X.env) (.pure (.again (.forLoop tg (.ref it) body [] X.env)))
            (.ret (fun r => ((match r with | .ok f => (.pure f : Sem Flow) | .error e => .raise e).onRaise (cameBack X.env)).wrap K J gd lv) none (gd false) (lv []) c p [] :: fs) s7 := fun {σ7 H7} G7 n7 => by
          obtain ⟨acc7, cc7, r7, I7⟩ := G7
          obtain ⟨m', hm, w7⟩ := hN ys' σ7 H7 n7
          have at7 : ∀ b ∈ fp, ∀ o, s5.heap.get? b = some o → s7.heap.get? b = some o ∧ H7 b = none := fun b hb o e => by
            have z := I7.pin (b, o) (List.mem_append_right _ (List.mem_cons_of_mem _ (List.mem_append_right _ (mem_pinsAt hb e))))
            exact ⟨z.1, z.2.1⟩
          refine seg_again rfl (ih m' hm (i + 1) n' ys' acc7 cc7 s₀' s7 σ7 H7 r7 hn' w7 (I7.pins_of fun q hq => I7.pin q (List.mem_append_right _ ?_)) (T.keep _ _ _ st5 fun b hb o e => (at7 b hb o e).1) fun b hb => ?_)
          · rcases List.mem_cons.mp hq with rfl | hq
            · exact List.mem_cons_self
            · exact List.mem_cons_of_mem _ (List.mem_append_left _ hq)
          · obtain ⟨o, e, _⟩ := T.obj _ _ st5 b hb
            obtain ⟨z1, z2, z3, z4, z5, z6⟩ := f b hb
            refine ⟨(at7 b hb o e).2, z2, z3, z4, z5, fun q hq => ?_⟩
            rcases List.mem_append.mp hq with hq | hq
            · exact z6 q (List.mem_append_left _ hq)
            · rcases List.mem_cons.mp hq with rfl | hq
              · exact z6 (S, lstObj acc cc) (List.mem_append_right _ List.mem_cons_self)
              · exact z6 q (List.mem_append_right _ (List.mem_cons_of_mem _ hq))
        have drop : ∀ {σ7 : L2.St} {H7 : Hp}, GI X S (ip ++ pinsAt fp s5.heap) ys' σ7 H7 s7 → GI X S ip ys' σ7 H7 s7 := fun {σ7 H7} G7 => by
          obtain ⟨acc7, cc7, r7, I7⟩ := G7
          refine ⟨acc7, cc7, r7, I7.pins_of fun q hq => I7.pin q (List.mem_append_right _ ?_)⟩
          rcases List.mem_cons.mp hq with rfl | hq
          · exact List.mem_cons_self
          · exact List.mem_cons_of_mem _ (List.mem_append_left _ hq)
        cases fl with
        | next => obtain ⟨σ7, H7, G7, n7⟩ := hs'; exact again G7 n7
        | cont => obtain ⟨σ7, H7, G7, n7⟩ := hs'; exact again G7 n7
        | brk => obtain ⟨σ7, H7, G7, q7⟩ := hs'; exact seg_leaf (.ok .next) (k.ok n' ys' s₀' s7 .next hn' ⟨σ7, H7, drop G7, q7⟩)
        | ret v => obtain ⟨x7, σ7, H7, G7, r7, q7⟩ := hs'; exact seg_leaf (.ok (.ret v)) (k.ok n' ys' s₀' s7 (.ret v) hn' ⟨x7, σ7, H7, drop G7, r7, q7⟩)
  exact loop m0 0 n ys acc cc s₀ s2 σ H2 r hn w0 I2 st2 f2
end
end KGen

/-! KU: classmethods and own objects called by keywords; list(o.m()) of a generator method. -/
namespace KU
open PySem PySem.Spec PyProof.Rows L2 KB KG KO KY
section
variable {X : Cx}
/-- n: the positional values, the class among them -/
structure CalleeCK (P : Program) (w : World) (K : PySem.W.Frag) (mg : Str → Option Value) (base : Heap) (CX : CXT) (k : Nat) (C : Addr) (m : Str) (ps : List Str) (sp : Sp) (n : Nat) (ks : List Str) (gV : List V → List V → List V) : Prop where
  ex : ∃ (mc : Value) (p g : Addr) (fd : FuncData) (gg : List Value → List Value → List Value), ClX.CRead K C mc ∧ ClX.CMet K C mc m p g ∧ FnOk P w K mg base CX k g fd ps sp ∧ KBn K fd ps n ks gg gV
theorem run_cmK {CX : CXT} {k n : Nat} {g C q : Addr} {fd : FuncData} {ps ks : List Str} {sp : Sp} {gg : List Value → List Value → List Value} {gV : List V → List V → List V} {E : XK} {Z : VK} {pins : List (Addr × Obj)} {σ : L2.St} {H : Hp} {s : Shared} {us ws : List Value} {vs zs : List V}
    (F : FnOk X.prog X.w X.K X.mg X.base CX k g fd ps sp) (room : Room k X.A) (hb : KBn X.K fd ps n ks gg gV) (pass : Passes CX X E) (I : Inv X ((q, PySem.W.methodObj (.ref g) (.ref C)) :: pins) σ H s) (r : Vals vs us) (rz : Vals zs ws) (l1 : vs.length + 1 = n) (l2 : zs.length = ks.length)
    (h : sp (gV (.ref C :: vs) zs) H Z E) : wpAny (model X.prog X.w) X.A (call (.ref q) us (ks.zip ws)) (EP X pins σ Z) X.xe s := by
  have rel : Vals (V.ref C :: vs) (Value.ref C :: us) := .cons rfl r
  have bt := hb.to s (Value.ref C :: us) ws I.kIn (by rw [List.length_cons, ← r.length]; exact l1) (rz.length.symm.trans l2)
  have z : wpAny (model X.prog X.w) X.A (call (.ref q) us (ks.zip ws)) (EP X ((q, PySem.W.methodObj (.ref g) (.ref C)) :: pins) σ Z) X.xe s := by
    refine wpAny_call (PySem.W.method_call (ClX.pin_at I) ?_)
    refine codeAny_mono (F.run X.A X.stack s H ⟨.ref C :: us, ks.zip ws⟩ _ _ Z E room I.env0 bt (hb.rel rel rz) h) fun res s2 y => ?_
    match res, y with
    | .error e, y => exact pass _ σ H s e s2 I y
    | .ok (.ret u), y => exact I.after y
    | .ok .next, y => exact y.elim
    | .ok .brk, y => exact y.elim
    | .ok .cont, y => exact y.elim
  exact thn z fun _ _ y => ClX.unpinE y
def tCMethK (C : Addr) (sp : Sp) (n m : Nat) (gV : List V → List V → List V) (E : XK) (ta : TE) (t tk : TA) : TE := fun σ H Q => ta σ H fun x H1 => x = .ref C ∧ t σ H1 fun vs H2 => tk σ H2 fun zs H3 => (vs.length + 1 = n ∧ zs.length = m) ∧ sp (gV (.ref C :: vs) zs) H3 Q E
/-- C.m(e, .., k = v, ..) -/
theorem pe_cmethK {pl : Sem Bool} {CX : CXT} {k n : Nat} {C : Addr} {m : Str} {ps ks : List Str} {sp : Sp} {gV : List V → List V → List V} {E : XK} {o e : Expr} {es : List Expr} {kws : List Keyword} {apos pos : Pos} {ta : TE} {t tk : TA} (c : CalleeCK X.prog X.w X.K X.mg X.base CX k C m ps sp n ks gV) (ho : PE X o ta) (room : Room k X.A) (pass : Passes CX X E)
    (ha : PA X (e :: es) t) (hkw : PK X kws tk) (d1 : (backToKw pos (keywordEach kws X.env)).all (·.1.isSome) = true := by rfl) (d2 : (backToKw pos (keywordEach kws X.env)).filterMap (·.1) = ks := by rfl) (d3 : ((backTo pos (starEach (e :: es) X.env)).any (·.1) || (backToKw pos (keywordEach kws X.env)).any (·.1.isNone)) = false := by rfl)
    (d5 : starEach (e :: es) X.env = (false, eval e X.env) :: starEach es X.env := by rfl)
    (d4 : eval (.Call (.Attribute o m apos) (e :: es) kws pos) X.env = (do
      let ov ← eval o X.env
      standAt apos.atName
      let (f, first) ← holding [ov] (getMethod ov m pl)
      callWith pos f first (backTo pos (starEach (e :: es) X.env)) (backToKw pos (keywordEach kws X.env))) := by rfl) :
    PE X (.Call (.Attribute o m apos) (e :: es) kws pos) (tCMethK C sp n ks.length gV E ta t tk) := by
  obtain ⟨mc, p, g, fd, gg, r, cm, F, hb⟩ := c.ex
  refine ⟨fun pins s σ H Z I h => PySem.W.methodCall_KW (pl := pl) (thn (ho.run pins s σ H _ I h) fun u s1 res => ?_) d4⟩
  obtain ⟨x, H1, I1, rx, rfl, q⟩ := res
  obtain rfl : u = Value.ref C := rx
  refine ClX.getmethcm_ok I1 r cm fun s2 I2 => ?_
  refine PySem.W.callWith_of d3 (PySem.W.keeps_M (self := .ref C) cm.fi) (evalArgs_kw2 d1 (thn (ha.run pos _ s2 σ H1 _ I2 q) fun us s3 res => ?_) d5)
  obtain ⟨vs, H2, I3, rv, q⟩ := res
  refine thn (hkw.run pos _ s3 σ H2 _ I3 q) fun ws s4 res => ?_
  obtain ⟨zs, H3, I4, rz, l, q⟩ := res
  refine ⟨⟨ClX.pin_at I4, I4.kIn⟩, ?_⟩
  rw [d2]
  exact run_cmK F room hb pass I4 rv rz l.1 l.2 q
/-- C.m(k = v, ..) -/
theorem pe_cmethK0 {pl : Sem Bool} {CX : CXT} {k : Nat} {C : Addr} {m : Str} {ps ks : List Str} {sp : Sp} {gV : List V → List V → List V} {E : XK} {o : Expr} {kws : List Keyword} {apos pos : Pos} {ta : TE} {tk : TA} (c : CalleeCK X.prog X.w X.K X.mg X.base CX k C m ps sp 1 ks gV) (ho : PE X o ta) (room : Room k X.A) (pass : Passes CX X E)
    (hkw : PK X kws tk) (d1 : (backToKw pos (keywordEach kws X.env)).all (·.1.isSome) = true := by rfl) (d2 : (backToKw pos (keywordEach kws X.env)).filterMap (·.1) = ks := by rfl) (d3 : ((backTo pos (starEach [] X.env)).any (·.1) || (backToKw pos (keywordEach kws X.env)).any (·.1.isNone)) = false := by rfl)
    (d4 : eval (.Call (.Attribute o m apos) [] kws pos) X.env = (do
      let ov ← eval o X.env
      standAt apos.atName
      let (f, first) ← holding [ov] (getMethod ov m pl)
      callWith pos f first (backTo pos (starEach [] X.env)) (backToKw pos (keywordEach kws X.env))) := by rfl) :
    PE X (.Call (.Attribute o m apos) [] kws pos) (tCMethK C sp 1 ks.length gV E ta tNil tk) := by
  obtain ⟨mc, p, g, fd, gg, r, cm, F, hb⟩ := c.ex
  refine ⟨fun pins s σ H Z I h => PySem.W.methodCall_KW (pl := pl) (thn (ho.run pins s σ H _ I h) fun u s1 res => ?_) d4⟩
  obtain ⟨x, H1, I1, rx, rfl, q⟩ := res
  obtain rfl : u = Value.ref C := rx
  refine ClX.getmethcm_ok I1 r cm fun s2 I2 => ?_
  refine PySem.W.callWith_of d3 (PySem.W.keeps_M (self := .ref C) cm.fi) (evalArgs_kw2_nil d1 (thn (hkw.run pos _ s2 σ H1 _ I2 q) fun ws s4 res => ?_))
  obtain ⟨zs, H3, I4, rz, l, q⟩ := res
  refine ⟨⟨ClX.pin_at I4, I4.kIn⟩, ?_⟩
  rw [d2]
  exact run_cmK (us := []) (vs := []) F room hb pass I4 .nil rz l.1 l.2 q
theorem r_cmethK {σ : L2.St} {H : Hp} {Q : VK} {C : Addr} {sp : Sp} {n m : Nat} {gV : List V → List V → List V} {E : XK} {ta : TE} {t tk : TA} (q : ta σ H fun x H1 => x = .ref C ∧ t σ H1 fun vs H2 => tk σ H2 fun zs H3 => (vs.length + 1 = n ∧ zs.length = m) ∧ sp (gV (.ref C :: vs) zs) H3 Q E) : tCMethK C sp n m gV E ta t tk σ H Q := q
/-! ### o(k = v) of an own object -/
structure OwnCK (P : Program) (w : World) (K : PySem.W.Frag) (mg : Str → Option Value) (base : Heap) (CX : CXT) (k : Nat) (C : Addr) (ps : List Str) (sp : Sp) (ks : List Str) (gV : List V → List V → List V) : Prop where
  ex : ∃ (g : Addr) (fd : FuncData) (gg : List Value → List Value → List Value), PySem.W.findIn K (.ref C) "__call__" = some (some (.ref g)) ∧ PySem.W.isFn K (.ref g) = true ∧ PySem.W.fnIn K g = true ∧ FnOk P w K mg base CX k g fd ps sp ∧ KBn K fd ps 1 ks gg gV
def tCallOK (C : Addr) (sp : Sp) (m : Nat) (gV : List V → List V → List V) (E : XK) (tf : TE) (tk : TA) : TE := fun σ H Q => tf σ H fun x H1 => ∃ (a dx : Addr) (fs : List (Str × V)), x = .ref a ∧ H1 a = some (.ins C dx fs) ∧ tk σ H1 fun zs H2 => H2 a = some (.ins C dx fs) ∧ zs.length = m ∧ sp (gV [.ref a] zs) H2 Q E
theorem pe_callOK {CX : CXT} {k : Nat} {C : Addr} {x : Str} {ps ks : List Str} {sp : Sp} {gV : List V → List V → List V} {E : XK} {kws : List Keyword} {p pos : Pos} {tf : TE} {tk : TA} (c : OwnCK X.prog X.w X.K X.mg X.base CX k C ps sp ks gV) (room : Room k X.A) (pass : Passes CX X E) (hf : PE X (.Name x p) tf) (hkw : PK X kws tk)
    (d1 : (backToKw pos (keywordEach kws X.env)).all (·.1.isSome) = true := by rfl) (d2 : (backToKw pos (keywordEach kws X.env)).filterMap (·.1) = ks := by rfl) (d3 : ((backTo pos (starEach [] X.env)).any (·.1) || (backToKw pos (keywordEach kws X.env)).any (·.1.isNone)) = false := by rfl) :
    PE X (.Call (.Name x p) [] kws pos) (tCallOK C sp ks.length gV E tf tk) := by
  obtain ⟨g, fd, gg, hs, hfn, hfi, F, hb⟩ := c.ex
  refine ⟨fun pins st σ h Z inv pre => wpAny_Call_Name_kw (thn (hf.run pins st σ h _ inv pre) fun u s1 r => ?_)⟩
  obtain ⟨v, h1, inv1, rv, a, dx, fs, rfl, ea, z⟩ := r
  obtain rfl : u = Value.ref a := rv
  refine KC.callWith_own (C := C) (dx := dx) d3 (evalArgs_kw2_nil d1 (thn (hkw.run pos pins s1 σ h1 _ inv1 z) fun ws s2 r => ?_))
  obtain ⟨zs, h2, inv2, rel, ea2, l, z2⟩ := r
  obtain ⟨od, J⟩ := inst_of inv2 ea2
  refine ⟨⟨_, J⟩, ?_⟩
  rw [d2]
  have bt := hb.to s2 [Value.ref a] ws inv2.kIn rfl (rel.length.symm.trans l)
  refine wpAny_call (codeAny_mono (PySem.W.kco_code inv2.kIn J rfl hs hfn hfi (F.run X.A X.stack s2 h2 ⟨[Value.ref a], ks.zip ws⟩ _ _ Z E room inv2.env0 bt (hb.rel (vs := [.ref a]) (us := [Value.ref a]) (.cons rfl .nil) rel) z2)) fun res s3 y => ?_)
  match res, y with
  | .error e, y => exact pass pins σ h2 s2 e s3 inv2 y
  | .ok (.ret u), y => exact inv2.after y
  | .ok .next, y => exact y.elim
  | .ok .brk, y => exact y.elim
  | .ok .cont, y => exact y.elim
theorem r_callOK {σ : L2.St} {H : Hp} {Q : VK} {C : Addr} {sp : Sp} {m : Nat} {gV : List V → List V → List V} {E : XK} {tf : TE} {tk : TA} (q : tf σ H fun x H1 => ∃ (a dx : Addr) (fs : List (Str × V)), x = .ref a ∧ H1 a = some (.ins C dx fs) ∧ tk σ H1 fun zs H2 => H2 a = some (.ins C dx fs) ∧ zs.length = m ∧ sp (gV [.ref a] zs) H2 Q E) : tCallOK C sp m gV E tf tk σ H Q := q
/-! ### list(o.m()) -/
structure CalleeGM (P : Program) (w : World) (K : PySem.W.Frag) (mg : Str → Option Value) (base : Heap) (k : Nat) (C : Addr) (m : Str) (ps : List Str) (sp : SpG) : Prop where
  ex : ∃ (f : Addr) (fd : FuncData), GFn P w K mg base k f fd ps sp ∧ Meth K C m f ∧ Binds K fd ps []
  cl : Cls K C
theorem noStop0 {K : PySem.W.Frag} : NoStop K E0 := fun _ _ _ h => h.elim
theorem pe_listM {pl : Sem Bool} {k : Nat} {C : Addr} {m : Str} {ps : List Str} {sp : SpG} {o : Expr} {apos pos pos' p : Pos} {ta : TE} (c : CalleeGM X.prog X.w X.K X.mg X.base k C m ps sp) (ho : PE X o ta) (room : Room (k + 3) X.A) (hg : Gl X "list") (hm : X.mg "list" = none)
    (d1 : starEach [.Call (.Attribute o m apos) [] [] pos'] X.env = (false, eval (.Call (.Attribute o m apos) [] [] pos') X.env) :: starEach [] X.env := by rfl)
    (d4 : eval (.Call (.Attribute o m apos) [] [] pos') X.env = (do
      let ov ← eval o X.env
      standAt apos.atName
      let (f, first) ← holding [ov] (getMethod ov m pl)
      callWith pos' f first (backTo pos' (starEach [] X.env)) (backToKw pos' (keywordEach [] X.env))) := by rfl) :
    PE X (.Call (.Name "list" p) [.Call (.Attribute o m apos) [] [] pos'] [] pos) (tListG (tMethG C m sp [] E0 ta tNil)) := by
  obtain ⟨f, fd, F, hme, hb⟩ := c.ex
  exact pe_listG (pgen_meth0 (dvs := []) (ds := []) ho c.cl hme F (room.mono (by omega)) hb .nil d4) passL noStop0 room hg hm (by decide +kernel) (by decide) (by decide) d1
theorem r_listM {σ : L2.St} {H : Hp} {Q : VK} {C : Addr} {m : Str} {sp : SpG} {ta : TE} (q : ta σ H fun x H1 => ∃ a dx fs, x = .ref a ∧ H1 a = some (.ins C dx fs) ∧ fs.lookup m = none ∧ sp [x] H1 (fun out H2 => ∀ p, H2 p = none → Q (.ref p) (upd H2 p (.lst out))) E0) : tListG (tMethG C m sp [] E0 ta tNil) σ H Q := q
end
/-! ### name = {k: v for ..} -/
section
variable {X : Cx}
theorem sw_dict {kx vx : Expr} {gs : List Comprehension} {scope : Scope} {pos py : Pos} {y : Str} {l : Nat} {env : Env} (h1 : env.scope.kind = .function) (h2 : env.scope.names.lookup y = some .local) (h3 : (py.line == pos.line) = true)
    (h4 : (scope.names.any fun (n, k) => n == y && (k == .local || k == .cell)) = false) : swapsWith (.DictComp kx vx gs scope pos) (some (.Name y py)) l env = pure true := by
  have k1 : env.kindOf y = some .local := h2
  have k2 : env.blockKind = .function := by
    unfold Env.blockKind
    rw [h1]
    rfl
  unfold swapsWith
  simp only [k2, k1, h4, Expr.pos, h3]
  rfl
theorem ps_setDc {i : Nat} {y : Str} {py : Pos} {kx vx tg iter : Expr} {ifs : List Expr} {scope : Scope} {own : List (Str × Nat)} {pos spos : Pos} {wi : TI} {g : TG} {tt : TT} {tk tv : TE} (calm : X.calm = true) (nd : X.N.Nodup) (hy : X.N[i]? = some y) (loc : X.env.scope.names.lookup y = some .local)
    (sw : swapsWith (.DictComp kx vx [⟨tg, iter, ifs, 0⟩] scope pos) (some (.Name y py)) spos.line X.env = pure true) (hi : PI X tg iter wi) (ok : BlkOk X.N X.env.scope scope own)
    (hg : ∀ (s : Shared) (H : Hp) (C : Addr) (cl : List (Str × Addr)) (fp : List Addr), PG (X.blk s H scope (compEnvC scope cl C X.env) fp) tg g)
    (ht : ∀ (s : Shared) (H : Hp) (C : Addr) (cl : List (Str × Addr)) (fp : List Addr), PTs (X.blk s H scope (compEnvC scope cl C X.env) fp) ifs tt)
    (hk : ∀ (s : Shared) (H : Hp) (C : Addr) (cl : List (Str × Addr)) (fp : List Addr), PE (X.blk s H scope (compEnvC scope cl C X.env) fp) kx tk)
    (hv : ∀ (s : Shared) (H : Hp) (C : Addr) (cl : List (Str × Addr)) (fp : List Addr), PE (X.blk s H scope (compEnvC scope cl C X.env) fp) vx tv) (hs : ∀ x, foldedSetIterable iter X.env x = pure x := by intro _; rfl) :
    PS X (.Assign [.Name y py] (.DictComp kx vx [⟨tg, iter, ifs, 0⟩] scope pos) spos) (tAsg (tDc wi g tt tk tv (own.map (·.2))) (gName i)) := by
  refine ⟨fun pins s σ H D I h => ?_⟩
  rw [exec_Assign_Name_used _ _ _ _ sw]
  refine wpAny_bind (wpAny_standAt (wpAny_bind ?_))
  show wpAny _ X.A (do let _ ← comprehension (.DictComp kx vx [⟨tg, iter, ifs, 0⟩] scope pos) scope X.env (firstIterPos [⟨tg, iter, ifs, 0⟩] pos) newDict false (eval iter X.env) (some (assign (.Name y py) X.env))) _ _ s
  have h' : tDc wi g tt tk tv (own.map (·.2)) σ H (fun x H1 => gName i x σ H1 D.nx) := h
  refine wpAny_bind (thn (dc_core (Qf := fun _ s' => SP X pins D .next s') calm nd I hi ok hg ht hk hv hs h' fun L C s' m H' I' q ns f => ?_) fun _ s' z => wpAny_pure (wpAny_pure z))
  show wpAny _ _ (assign (.Name y py) X.env (.ref L)) _ _ _
  refine wpAny_assign_Name (store_ok2 (v := V.ref L) I' nd hy (.inl loc) rfl (fun s2 I2 at2 => ?_) (.inr loc))
  obtain ⟨a, sb, ha⟩ := at2
  obtain ⟨f0, f1, f2, f3, f4, f5⟩ := f
  have ne : C ≠ a := by
    rcases ha with z | z
    · exact fun e => f1 (e.trans z)
    · exact fun e => f4 y a z e.symm
  exact ⟨m, ns.sameBut sb ne, fun h3 sb3 => ⟨_, H', I2.turned (t' := s2.toks) (fun b o hb e => (sb3.2 b hb).trans e) f0 f1 f3 f4 f5, q⟩⟩
end
theorem r_enumS {σ : L2.St} {H : Hp} {ta : TA} {R : It → Hp → Prop} (q : ta σ H fun vs H1 => ∃ z, vs = [.str z] ∧ R (KT.ItES z) H1) : KT.iEnumS ta σ H R := q
theorem r_enumT {K : PySem.W.Frag} {σ : L2.St} {H : Hp} {ta : TA} {R : It → Hp → Prop} (q : ta σ H fun vs H1 => ∃ a xs, vs = [.ref a] ∧ SqT K H1 a xs ∧ R (KT.ItET K a) H1) : KT.iEnumT K ta σ H R := q
theorem r_gif {σ : L2.St} {H : Hp} {D : GEnds} {ys : List V} {tc : TT} {t1 t2 : TGn} (q : tc σ H fun b H1 => if b = true then t1 D ys σ H1 else t2 D ys σ H1) : KGen.tGIf tc t1 t2 D ys σ H := q
theorem r_gfor {σ : L2.St} {H : Hp} {D : GEnds} {ys : List V} {wi : TI} {g : TG} {tb : TGn} (q : wi σ H fun J H1 => ∃ W : Nat → Nat → List V → L2.St → Hp → Prop, (∃ m, W 0 m ys σ H1) ∧ ∀ i m ys σ H, W i m ys σ H →
  (J.stop i H ∧ D.nx ys σ H) ∨ (J.go i H ∧ ∃ N : List V → L2.St → Hp → Prop, (∀ ys' σ' H', N ys' σ' H' → ∃ m', m' < m ∧ W (i + 1) m' ys' σ' H') ∧ ∀ x H', J.yld i H x H' → g x σ H' fun σ2 H2 => tb { D with nx := N, ct := N, bk := D.nx } ys σ2 H2)) : KGen.tGFor wi g tb D ys σ H := q
theorem r_gthen {σ : L2.St} {H : Hp} {D : GEnds} {ys : List V} {t u : TGn} (q : t { D with nx := fun ys' σ' H' => u D ys' σ' H' } ys σ H) : tGThen t u D ys σ H := q
theorem r_gyield {σ : L2.St} {H : Hp} {D : GEnds} {ys : List V} {te : TE} (h : ys.length < sizeLine) (q : te σ H fun x H1 => D.nx (ys ++ [x]) σ H1) : tGYield te D ys σ H := ⟨h, q⟩
theorem r_g0 {σ : L2.St} {H : Hp} {D : GEnds} {ys : List V} (q : D.nx ys σ H) : tG0 D ys σ H := q
end KU

/-! KV: data that is small enough to be shown by repr; what of a pen is kept; comprehensions that draw. -/
namespace KV
open PySem PySem.Spec PyProof.Rows L2 KB KG KO
/-- may be shown: at most n signs, at most k deep -/
structure Sm (n k : Nat) (d : PyData) : Prop where
  ok : d.showable = true
  nod : d.hasDict = false
  deep : d.depth ≤ k
  len : d.shown.length ≤ n
theorem Sm.mono {n k n' k' : Nat} {d : PyData} (h : Sm n k d) (a : n ≤ n') (b : k ≤ k') : Sm n' k' d := ⟨h.ok, h.nod, Nat.le_trans h.deep b, Nat.le_trans h.len a⟩
theorem sm_all {n k : Nat} : ∀ xs : List PyData, (∀ x ∈ xs, Sm n k x) → PyData.showableAll xs = true ∧ PyData.hasDictAll xs = false ∧ PyData.depthAll xs ≤ k ∧ ((PyData.shownAll xs).map (·.length)).sum ≤ xs.length * n
  | [], _ => ⟨rfl, rfl, Nat.zero_le _, by simp [PyData.shownAll]⟩
  | x :: xs, h => by
    obtain ⟨a, b, c, d⟩ := sm_all xs fun y m => h y (List.mem_cons_of_mem _ m)
    have z := h x List.mem_cons_self
    refine ⟨by simp only [PyData.showableAll, z.ok, a, Bool.and_self], by simp only [PyData.hasDictAll, z.nod, b, Bool.or_self], ?_, ?_⟩
    · simp only [PyData.depthAll]
      exact Nat.max_le.mpr ⟨z.deep, c⟩
    · simp only [PyData.shownAll, List.map_cons, List.sum_cons, List.length_cons, Nat.succ_mul]
      have := z.len
      omega
theorem Sm.tuple {n k : Nat} {xs : List PyData} (h : ∀ x ∈ xs, Sm n k x) : Sm (xs.length * (n + 2) + 3) (k + 1) (.tuple xs) := by
  obtain ⟨a, b, c, d⟩ := sm_all xs h
  refine ⟨by simpa only [PyData.showable] using a, by simpa only [PyData.hasDict] using b, by simp only [PyData.depth]; omega, ?_⟩
  have l := tupleText_len_le (PyData.shownAll xs)
  rw [PyData.shownAll_length] at l
  simp only [PyData.shown]
  rw [Nat.mul_add]
  omega
theorem Sm.list {n k : Nat} {xs : List PyData} (h : ∀ x ∈ xs, Sm n k x) : Sm (xs.length * (n + 2) + 3) (k + 1) (.list xs) := by
  obtain ⟨a, b, c, d⟩ := sm_all xs h
  refine ⟨by simpa only [PyData.showable] using a, by simpa only [PyData.hasDict] using b, by simp only [PyData.depth]; omega, ?_⟩
  have l := listText_len_le (PyData.shownAll xs)
  rw [PyData.shownAll_length] at l
  simp only [PyData.shown]
  rw [Nat.mul_add]
  omega
theorem Sm.int {i : Int} (h : i.natAbs < 10 ^ 12) : Sm 13 0 (.int i) := by
  refine ⟨?_, rfl, Nat.le_refl _, PyData.shown_int_le h⟩
  simp only [PyData.showable]
  refine decide_eq_true ?_
  by_cases z : i.natAbs = 0
  · rw [z]; decide
  · exact (Nat.log2_lt z).mpr (Nat.lt_of_lt_of_le h (by decide +kernel))
theorem Sm.big {i : Int} (h : i.natAbs.log2 < 1920) : Sm 1921 0 (.int i) := by
  refine ⟨?_, rfl, Nat.le_refl _, KBL.num_len h⟩
  simp only [PyData.showable]
  exact decide_eq_true h
theorem Sm.bool {b : Bool} : Sm 5 0 (.bool b) := by cases b <;> exact ⟨rfl, rfl, Nat.le_refl _, by decide +kernel⟩
theorem Sm.none : Sm 4 0 .none := ⟨rfl, rfl, Nat.le_refl _, by decide +kernel⟩
theorem Sm.str {z : Str} {n : Nat} (h : (reprText z).length ≤ n) : Sm n 0 (.str z) := ⟨rfl, rfl, Nat.le_refl _, h⟩
theorem r_reprS {K : PySem.W.Frag} {H : Hp} {Q : VK} {v : V} {d : PyData} {n k : Nat} (dp : Dp K H v d) (f : Sm n k d) (hk : k ≤ 60) (hn : n ≤ 1000000) (q : Q (.str d.shown) H) : KG.rRepr K [v] H Q :=
  ⟨v, d, rfl, dp, f.ok, f.nod, Nat.le_trans f.deep hk, Nat.le_trans f.len (Nat.le_trans hn (by decide)), q⟩
/-! ### the pen -/
/-- the pen: its cells, the next index, what is left; room for k draws more -/
def PenC (H : Hp) (p c : Addr) (k : Nat) : Prop := ∃ (ns : List Int) (at_ : Nat) (left : Int),
  H p = some (.lst [.ref c, .int at_, .int left]) ∧ H c = some (.lst (ns.map V.int)) ∧ p ≠ c ∧ ns.length ≤ 63 ∧ at_ + k ≤ 100000
def Keep (p : Addr) (H H' : Hp) : Prop := ∀ b o, H b = some o → b ≠ p → H' b = some o
theorem PenC.mono {H : Hp} {p c : Addr} {j k : Nat} (h : PenC H p c k) (e : j ≤ k) : PenC H p c j := by
  obtain ⟨ns, at_, left, h1, h2, h3, h4, h5⟩ := h
  exact ⟨ns, at_, left, h1, h2, h3, h4, by omega⟩
theorem PenC.up {H H' : Hp} {p c : Addr} {k : Nat} (h : PenC H p c k) (s : Same H H') : PenC H' p c k := by
  obtain ⟨ns, at_, left, h1, h2, h3, h4, h5⟩ := h
  exact ⟨ns, at_, left, s _ _ h1, s _ _ h2, h3, h4, h5⟩
theorem PenC.ne {H : Hp} {p c q : Addr} {k : Nat} (h : PenC H p c k) (n : H q = none) : q ≠ p := by
  obtain ⟨ns, at_, left, h1, h2, h3, h4, h5⟩ := h
  exact (ne_of_none h1 n).symm
theorem PenC.nec {H : Hp} {p c q : Addr} {k : Nat} (h : PenC H p c k) (n : H q = none) : q ≠ c := by
  obtain ⟨ns, at_, left, h1, h2, h3, h4, h5⟩ := h
  exact (ne_of_none h2 n).symm
theorem PenC.keep {H H' : Hp} {p c q : Addr} {k : Nat} (h : PenC H p c k) (s : Keep q H H') (n1 : q ≠ p) (n2 : q ≠ c) : PenC H' p c k := by
  obtain ⟨ns, at_, left, h1, h2, h3, h4, h5⟩ := h
  exact ⟨ns, at_, left, s _ _ h1 n1.symm, s _ _ h2 n2.symm, h3, h4, h5⟩
theorem PenC.lst {H : Hp} {p c : Addr} {k : Nat} (h : PenC H p c k) : ∃ xs, H p = some (.lst xs) := by
  obtain ⟨ns, at_, left, h1, _⟩ := h
  exact ⟨_, h1⟩
theorem PenC.not {H : Hp} {p c b : Addr} {k : Nat} {o : HO} (h : PenC H p c k) (e : H b = some o) (n : ∀ xs, o ≠ .lst xs) : b ≠ p := by
  obtain ⟨xs, h1⟩ := h.lst
  intro z
  rw [z, h1] at e
  exact n xs (Option.some.inj e).symm
def spPen (K : PySem.W.Frag) : Sp := fun vs H Q _ => ∃ (a : Addr) (ns : List Int), vs = [.ref a] ∧ SqL K H a (ns.map V.int) ∧ ns.length ≤ 63 ∧
  ∀ H' p c, Same H H' → H p = none → H c = none → PenC H' p c 100000 → Q (.ref p) H'
def spDraw : Sp := fun vs H Q _ => ∃ (p c : Addr) (many : Int) (k : Nat), vs = [.ref p, .int many] ∧ 0 < many ∧ many < 1000000000 ∧ PenC H p c (k + 1) ∧
  ∀ (r : Int) H', 0 ≤ r → r < many → PenC H' p c k → Keep p H H' → Q (.int r) H'
theorem Keep.tr {p : Addr} {H1 H2 H3 : Hp} (a : Keep p H1 H2) (b : Keep p H2 H3) : Keep p H1 H3 := fun x o e n => b x o (a x o e n) n
theorem Keep.same {p : Addr} {H1 H2 : Hp} (a : Same H1 H2) : Keep p H1 H2 := fun x o e n => a x o e
theorem Keep.refl {p : Addr} {H : Hp} : Keep p H H := fun _ _ e _ => e
open KD
/-- a draw keeps all but lists -/
theorem Keep.sn {p c : Addr} {k : Nat} {H H' : Hp} (s : Keep p H H') (pn : PenC H p c k) : SameN H H' := fun a o e n => s a o e (pn.not e n)
theorem SameN.refl {H : Hp} : SameN H H := fun _ _ e _ => e
theorem SameN.lset {H : Hp} {D : Addr} {xs ys : List V} (h : H D = some (.lst xs)) : SameN H (upd H D (.lst ys)) := fun a o e n => by
  rw [upd_ne (fun z => n xs (by rw [z, h] at e; exact (Option.some.inj e).symm))]
  exact e
theorem SameN.seqT {K : PySem.W.Frag} {H H' : Hp} {a : Addr} {xs : List V} (s : SameN H H') (h : SqT K H a xs) : SqT K H' a xs := by
  rcases h with (h | ⟨o, h⟩) | h
  · exact .inl (.inl (s.tup h))
  · exact .inl (.inr ⟨o, s a _ h fun _ z => by cases z⟩)
  · exact .inr h
theorem Keep.mut {p D : Addr} {H1 H : Hp} {o : HO} (s : Keep p H1 H) (hD : H1 D = none) : Keep p H1 (upd H D o) := fun b o e n => by
  rw [upd_ne (ne_of_none e hD)]
  exact s b o e n
theorem PenC.mut {H : Hp} {p c D : Addr} {k : Nat} {o : HO} (h : PenC H p c k) (n1 : D ≠ p) (n2 : D ≠ c) : PenC (upd H D o) p c k := by
  obtain ⟨ns, at_, left, h1, h2, h3, h4, h5⟩ := h
  exact ⟨ns, at_, left, by rw [upd_ne n1.symm]; exact h1, by rw [upd_ne n2.symm]; exact h2, h3, h4, h5⟩
/-- a comprehension that draws: Kr i: the draws that are left ahead of the i-th element -/
theorem lc_pen {J : It} {n : Nat} {G : Hp → Prop} {Y : Nat → Hp → V → Hp → Prop} (wk : Walk J n G Y) {g : TG} {tt : TT} {te : TE} {vs : List Nat} {σ : L2.St} {H1 : Hp} {Q : VK} {pen c : Addr} (R : Nat → V → Hp → Prop) (Kr : Nat → Nat) (hn : n ≤ 10000) (pn : PenC H1 pen c (Kr 0))
    (up : ∀ i v H H', R i v H → SameN H H' → R i v H') (hG : ∀ H', Keep pen H1 H' → G H')
    (hs : ∀ i x H H' (N : V → Hp → Prop) (B : Hp → Prop), i < n → Keep pen H1 H → PenC H pen c (Kr i) → Y i H x H' → (∀ v H2, Keep pen H H2 → PenC H2 pen c (Kr (i + 1)) → R i v H2 → N v H2) → g x (wipe σ vs) H' fun σ2 H2 => wipe σ2 vs = wipe σ vs ∧ tt σ2 H2 fun b H3 => if b = true then te σ2 H3 N else B H3)
    (hd : ∀ D H' (ys : List V), H1 D = none → Keep pen H1 H' → PenC H' pen c (Kr n) → H' D = some (.lst ys) → ys.length = n → (∀ i v, ys[i]? = some v → R i v H') → Q (.ref D) H') :
    LcW J g tt te vs σ H1 Q := by
  intro D hD
  have dp := pn.ne hD
  have dc := pn.nec hD
  refine lc_it wk (Qd := fun H => Q (.ref D) H) (fun i H => Keep pen H1 H ∧ PenC H pen c (Kr i) ∧ ∃ ys : List V, H D = some (.lst ys) ∧ ys.length = i ∧ ∀ j v, ys[j]? = some v → R j v H) ⟨Keep.same (same_new hD), pn.up (same_new hD), [], upd_same, rfl, fun j v e => by simp at e⟩ (fun i H _ p => hG H p.1) (fun i x H H' hi p y => ?_) (fun H p => ?_)
  · obtain ⟨sm, pi, ys, hy, hl, hR⟩ := p
    refine hs i x H H' _ _ hi sm pi y (fun v H2 k2 p2 r => ?_)
    have e2 := k2 _ _ hy dp
    refine ⟨ys, e2, small1000' (by omega), (sm.tr k2).mut hD, p2.mut dp dc, ys ++ [v], upd_same, by simp [hl], fun j w e => ?_⟩
    by_cases hj : j < ys.length
    · rw [List.getElem?_append_left hj] at e
      exact up _ _ _ _ (hR j w e) ((k2.sn pi).trans (SameN.lset e2))
    · rw [List.getElem?_append_right (by omega)] at e
      have h0 : j - ys.length = 0 := by
        cases z : j - ys.length with
        | zero => rfl
        | succ m => rw [z] at e; simp at e
      rw [h0] at e
      have ew : v = w := Option.some.inj e
      subst ew
      have ej : j = i := by omega
      subst ej
      exact up _ _ _ _ r (SameN.lset e2)
  · obtain ⟨sm, pi, ys, hy, hl, hR⟩ := p
    exact hd D H ys hD sm pi hy hl hR
theorem walk_zipT {K : PySem.W.Frag} {a b : Addr} {xs ys : List V} {n : Nat} (hn : n = min xs.length ys.length) : Walk (RZ.ItzT K a b) n (fun H => SqT K H a xs ∧ SqT K H b ys) (YPair (fun i => xs[i]?) (fun i => ys[i]?)) := by
  subst hn
  refine ⟨fun i _ hi q => ?_, fun _ q => ⟨xs, ys, q.1, q.2, by omega⟩, fun i H v H' _ q y => ?_⟩
  · have h1 : i < xs.length := by omega
    have h2 : i < ys.length := by omega
    exact ⟨xs, ys, xs[i], ys[i], q.1, q.2, by simp [h1], by simp [h2]⟩
  · obtain ⟨T, x, z, h1, h2, h3, h4, h5⟩ := y
    exact ⟨T, x, z, h1, h2, h3, h4 xs q.1, h5 ys q.2⟩
/-- f(e, ..) where the keyword-only parameters lack: their defaults -/
theorem kbn_def {K : PySem.W.Frag} {x qual : Str} {params : Arguments} {body : List Stmt} {scope : Scope} {kws : List (Str × V)} {f : Addr} {fd : FuncData} {ps : List Str} (F : FunD K x qual params body scope [] kws f fd) (n : Nat) (hk : kws ≠ []) (hn : n + kws.length = ps.length)
    (h : ∀ (D : Addr) (doc pm : Value) (an : Option Addr) (cdv ct : Value) (us ks : List Value), us.length = n → ks.length = kws.length →
      KwChain D ((kws.map (·.1)).zip ks) (bindArgs (PySem.W.fnOf x qual params body scope .none (.ref D) doc pm an cdv ct) ⟨us, []⟩) (ps.zip (us ++ ks))) : ∃ gg : List Value → List Value → List Value, KBn K fd ps n [] gg (fun vs _ => vs ++ kws.map (·.2)) := by
  obtain ⟨ds, rd, bd⟩ := F.binds0 n hk hn h
  have ld : ds.length = kws.length := by have := rd.length; simpa using this.symm
  refine ⟨fun us _ => us ++ ds, fun s us ws X l1 l2 => ?_, fun r1 _ => r1.append rd⟩
  exact bd s us X (by rw [List.length_append]; omega)
theorem r_zipA {K : PySem.W.Frag} {σ : L2.St} {H : Hp} {ta : TA} {R : It → Hp → Prop} (q : ta σ H fun vs H1 => ∃ a b xs ys, vs = [.ref a, .ref b] ∧ ((SqL K H1 a xs ∧ SqL K H1 b ys ∧ R (Itz K a b) H1) ∨ (SqT K H1 a xs ∧ SqT K H1 b ys ∧ R (RZ.ItzT K a b) H1))) : RZ.iZipA K ta σ H R := q
theorem atI_mem {α : Type} {xs : List α} {r : Int} (h0 : 0 ≤ r) (h1 : r < (xs.length : Int)) : ∃ x ∈ xs, atI xs r = some x := by
  obtain ⟨n, rfl⟩ : ∃ n : Nat, r = (n : Int) := ⟨r.toNat, by omega⟩
  have hl : n < xs.length := by omega
  exact ⟨xs[n], List.getElem_mem hl, atI_nat (by simp [hl])⟩
/-- what all elements are, as one list -/
theorem choose_list {α : Type} {f : α → V} {Pr : Nat → α → Prop} : ∀ (ys : List V), (∀ (i : Nat) (v : V), ys[i]? = some v → ∃ a, Pr i a ∧ v = f a) → ∃ as : List α, ys = as.map f ∧ as.length = ys.length ∧ ∀ (i : Nat) (a : α), as[i]? = some a → Pr i a
  | ys, h => by
    induction ys generalizing Pr with
    | nil => exact ⟨[], rfl, rfl, fun i a e => by simp at e⟩
    | cons y ys ih =>
      obtain ⟨a, pa, rfl⟩ := h 0 y rfl
      obtain ⟨as, rfl, l, q⟩ := ih (Pr := fun i a => Pr (i + 1) a) fun i v e => h (i + 1) v e
      refine ⟨a :: as, rfl, by simp, fun i b e => ?_⟩
      cases i with
      | zero => cases e; exact pa
      | succ i => exact q i b e
def sign (c : Nat) : Str := ⟨#[c]⟩
theorem str_ext {a b : Str} (h : a.cps.toList = b.cps.toList) : a = b := by
  cases a; cases b
  congr 1
  exact Array.toList_inj.mp h
theorem append_toList (a b : Str) : (a ++ b).cps.toList = a.cps.toList ++ b.cps.toList := Array.toList_append
theorem join_signs : ∀ cs : List Nat, (Str.join ⟨#[]⟩ (cs.map sign)).cps.toList = cs
  | [] => rfl
  | [c] => rfl
  | c :: d :: r => by
    show (sign c ++ (⟨#[]⟩ : Str) ++ Str.join ⟨#[]⟩ ((d :: r).map sign)).cps.toList = c :: d :: r
    rw [append_toList, append_toList, join_signs (d :: r)]
    rfl
theorem sum_signs (cs : List Nat) : ((cs.map sign).map (·.length)).sum = cs.length := by
  induction cs with
  | nil => rfl
  | cons c r ih =>
    rw [List.map_cons, List.map_cons, List.sum_cons, ih, List.length_cons]
    show 1 + r.length = _
    omega
end KV

/-! KW: o op= v by an own operator without an in-place form; ~o; a property read. -/
namespace KW
open PySem PySem.Spec PyProof.Rows L2 KB KG KO KY KR
section
variable {prog : Program} {w : World} {A : Around} {E : Value → Shared → Prop} {s : Shared} {K : PySem.W.Frag} {x C L g g2 : Addr} {hb : Heap} {m : Str → Option Value} {ox : Obj} {od : Option Obj} {T : String} {nm : String}
open PySem.W in
theorem fillsI_no {M : Model} {h : Heap} {cd : ClassData} {add : Bool} (X : K.In h) (hc : clsIn K C = some cd) (hm : cd.mro = [.ref C, .type "object"]) (h1 : findIn K (.ref C) (dunderI nm) = some none) (h2 : findIn K (.type "object") (dunderI nm) = some none) : Looks M h (fillsInplaceSlot (.ref C) nm add) false := by
  intro A Q E s k q
  have Lm : Looks M h (mroOf (.ref C)) cd.mro := (looks_clsIn X hc).andThen (f := fun cd => pure cd.mro) .now
  have Lm' := Lm.keeps k
  obtain ⟨hh, g, d, tt, os⟩ := s
  have X' : K.In hh := X.keeps k
  have L1 : Looks M hh (typeLookup (.ref C) (dunderI nm)) none := looks_findIn X' h1
  have L2 : Looks M hh (typeLookup (.type "object") (dunderI nm)) none := looks_findIn X' h2
  unfold fillsInplaceSlot
  refine wpAny_bind (Lm'.at ?_)
  rw [hm, List.anyM_cons]
  refine wpAny_bind ?_
  refine wpAny_bind (L1.at ?_)
  refine wpAny_pure ?_
  simp only [Bool.false_eq_true, if_false]
  rw [List.anyM_cons]
  refine wpAny_bind ?_
  refine wpAny_bind (L2.at ?_)
  refine wpAny_pure ?_
  simp only [Bool.false_eq_true, if_false]
  exact wpAny_pure q
open PySem.W in
/-- o op= v -/
theorem in_left {op : Operator} {v : Value} {fo ro rc : Option Value} {Z : Value → Shared → Prop} (F : Fr hb L s.heap m) (X0 : K.In hb) (I : InstAt s.heap x ox C od) (lv : Looks (model prog w) s.heap (typeOf v) (.type T)) (c1 : ∃ cd, clsIn K C = some cd ∧ cd.mro = [.ref C, .type "object"])
    (c2 : findIn K (.ref C) (PySem.dunder op.info.2) = some (some (.ref g))) (c3 : isFn K (.ref g) = true) (c4 : findIn K (.ref C) (dunderR op.info.2) = some rc) (c5 : rc = none ∨ ∃ z : Addr, rc = some (.ref z))
    (c6 : findIn K (.type T) (PySem.dunder op.info.2) = some fo) (c7 : findIn K (.type T) (dunderR op.info.2) = some ro) (c8 : subIn K (.type T) (.ref C) = some false)
    (c9 : findIn K (.ref C) (dunderI op.info.2) = some none) (c10 : findIn K (.type "object") (dunderI op.info.2) = some none)
    (go : wpAny (model prog w) A (call (.ref g) [.ref x, v]) (PySem.W.CmpBack Z) E s) : wpAny (model prog w) A (inplaceOp op (.ref x) v) Z E s := by
  have XK := X0.keeps F.keep
  obtain ⟨cd, hcd, hmro⟩ := c1
  rcases oi : op.info with ⟨sy, n1⟩
  rw [oi] at c2 c4 c6 c7 c9 c10
  dsimp only at c2 c4 c6 c7 c9 c10
  have once := ksp_try XK I c2 c3 go
  obtain ⟨sh, sg, sd, stk, sos⟩ := s
  have k1 : Looks (model prog w) sh (typeOf (.ref x)) (.ref C) := I.type
  have k2 : Looks (model prog w) sh (typeOf v) (.type T) := lv
  have k0 : Looks (model prog w) sh (fillsInplaceSlot (.ref C) n1 (op == .Add)) false := fillsI_no XK hcd hmro c9 c10
  have k3 : Looks (model prog w) sh (fillsNumberSlot (.ref C) n1) true := fills_K XK hcd hmro c2
  have k4 : Looks (model prog w) sh (fillsNumberSlot (.type T) n1) _ := ksp_fillsT XK c6 c7
  have k5 : Looks (model prog w) sh (isSubtype (.type T) (.ref C)) false := looks_subIn XK c8
  have k6 : Looks (model prog w) sh (numberSlotInPython (.ref C) n1) true := ksp_inPy XK c2 c4 c5
  have k7 : Looks (model prog w) sh (numberSlotInPython (.type T) n1) false := Looks.of_pure rfl
  have k8 : Looks (model prog w) sh (typeLookup (.type T) (dunderR n1)) ro := looks_findIn XK c7
  revert k4
  generalize ((fo.isSome && !isSeqSlot fo) || (ro.isSome && !isSeqSlot ro)) = rt
  intro k4
  have nq : (Value.ref C == Value.type T) = false := Bool.eq_false_iff.mpr fun q => by cases beq_iff_eq.mp q
  unfold inplaceOp
  simp only [oi]
  refine wpAny_holding ?_
  refine wpAny_bind (k1.at ?_)
  refine wpAny_bind (k0.at ?_)
  simp only [Bool.false_eq_true, if_false]
  refine wpAny_bind ?_
  unfold binaryOp1
  refine wpAny_bind (k1.at (wpAny_bind (k2.at (wpAny_bind (k3.at ?_)))))
  simp only [nq, Bool.false_eq_true, if_false]
  cases rt
  all_goals
    ksp_lk
    refine wpAny_mono once (fun r s' y => ?_) fun _ _ e => e
    obtain ⟨v', rfl, hq⟩ := y
    ksp_lk
    exact hq
end
section
variable {X : Cx} {pins : List (Addr × Obj)} {σ : L2.St} {H : Hp} {st : Shared}
structure OwnIn (P : Program) (w : World) (K : PySem.W.Frag) (mg : Str → Option Value) (base : Heap) (CX : CXT) (k : Nat) (C : Addr) (op : Operator) (ps : List Str) (sp : Sp) : Prop where
  ex : ∃ (g : Addr) (fd : FuncData) (rc fo ro : Option Value), (∃ cd, PySem.W.clsIn K C = some cd ∧ cd.mro = [.ref C, .type "object"]) ∧ PySem.W.findIn K (.ref C) (PySem.dunder op.info.2) = some (some (.ref g)) ∧ PySem.W.isFn K (.ref g) = true ∧ PySem.W.findIn K (.ref C) (dunderR op.info.2) = some rc ∧ (rc = none ∨ ∃ g : Addr, rc = some (.ref g)) ∧
    PySem.W.findIn K (.type "int") (PySem.dunder op.info.2) = some fo ∧ PySem.W.findIn K (.type "int") (dunderR op.info.2) = some ro ∧ PySem.W.subIn K (.type "int") (.ref C) = some false ∧ PySem.W.findIn K (.ref C) (dunderI op.info.2) = some none ∧ PySem.W.findIn K (.type "object") (dunderI op.info.2) = some none ∧
    FnOk P w K mg base CX k g fd ps sp ∧ Binds K fd ps []
/-- x op= v, v an int -/
def tipO (C : Addr) (sp : Sp) (E : XK) : TIp := fun x y H Q => ∃ (a dx : Addr) (fs : List (Str × V)) (i : Int), x = .ref a ∧ H a = some (.ins C dx fs) ∧ y = .int i ∧ sp [x, y] H Q E
theorem ip_own {CX : CXT} {E : XK} {C : Addr} {op : Operator} {ps : List Str} {sp : Sp} {n : Nat} (c : OwnIn X.prog X.w X.K X.mg X.base CX n C op ps sp) (room : Room n X.A) (pass : Passes CX X E) : PIp X op (tipO C sp E) := by
  obtain ⟨g, fd, rc, fo, ro, c1, c2, c3, c4, c5, c6, c7, c8, c9, c10, F, bind⟩ := c.ex
  intro pins st σ h x y v u Z inv rx ry pre
  obtain ⟨a, dx, fs, i, rfl, ha, rfl, z⟩ := pre
  obtain rfl : v = Value.ref a := rx
  obtain ⟨tk, rfl⟩ := (show ∃ t, u = Value.int i t from ry)
  obtain ⟨od, J⟩ := inst_of inv ha
  obtain ⟨m, hF⟩ := inv.fr
  refine in_left (T := "int") hF inv.ok.mod.kin J (PySem.W.Looks.of_pure rfl) c1 c2 c3 c4 c5 c6 c7 c8 c9 c10 ?_
  refine wpAny_mono (run_fn (us := [.ref a, .int i tk]) (vs := [.ref a, .int i]) F room bind .nil pass inv (.cons rfl (.cons ⟨tk, rfl⟩ .nil)) z) (fun w s2 r => ?_) fun _ _ z => z
  obtain ⟨z', h2, inv2, rz, qz⟩ := r
  exact SlX.cmpback rz ⟨z', h2, inv2, rz, qz⟩
structure OwnU (P : Program) (w : World) (K : PySem.W.Frag) (mg : Str → Option Value) (base : Heap) (CX : CXT) (k : Nat) (C : Addr) (ps : List Str) (sp : Sp) : Prop where
  ex : ∃ (g : Addr) (fd : FuncData), PySem.W.findIn K (.ref C) "__invert__" = some (some (.ref g)) ∧ PySem.W.isFn K (.ref g) = true ∧ FnOk P w K mg base CX k g fd ps sp ∧ Binds K fd ps []
def rUnO (C : Addr) (sp : Sp) (E : XK) : V → Hp → VK → Prop := fun x H Q => ∃ (a dx : Addr) (fs : List (Str × V)), x = .ref a ∧ H a = some (.ins C dx fs) ∧ sp [x] H Q E
theorem un_invO {CX : CXT} {E : XK} {C : Addr} {ps : List Str} {sp : Sp} {n : Nat} (c : OwnU X.prog X.w X.K X.mg X.base CX n C ps sp) (room : Room n X.A) (pass : Passes CX X E) : UnR X (unaryOp .Invert) (rUnO C sp E) := by
  obtain ⟨g, fd, c1, c2, F, bind⟩ := c.ex
  intro pins st σ h x v Z inv rx pre
  obtain ⟨a, dx, fs, rfl, ha, z⟩ := pre
  obtain rfl : v = Value.ref a := rx
  obtain ⟨od, J⟩ := inst_of inv ha
  obtain ⟨m, hF⟩ := inv.fr
  refine PySem.W.ksp_inv hF inv.ok.mod.kin J c1 c2 ?_
  exact run_fn (us := [.ref a]) (vs := [.ref a]) F room bind .nil pass inv (.cons rfl .nil) z
structure OwnP (P : Program) (w : World) (K : PySem.W.Frag) (mg : Str → Option Value) (base : Heap) (k : Nat) (C : Addr) (f : Str) (ps : List Str) (sp : Sp) : Prop where
  ex : ∃ (p g : Addr) (fd : FuncData), PropOf K C f p g ∧ FnOk P w K mg base CX0 k g fd ps sp ∧ Binds K fd ps []
  cl : Cls K C
theorem pe_propO {C : Addr} {f : Str} {ps : List Str} {sp : Sp} {n : Nat} {e : Expr} {pos : Pos} {ta : TE} (c : OwnP X.prog X.w X.K X.mg X.base n C f ps sp) (he : PE X e ta) (room : Room (n + 1) X.A)
    (hab : attributeBase e f X.env (eval e X.env) = eval e X.env := by rfl) : PE X (.Attribute e f pos) (tProp C sp [] E0 ta) := by
  obtain ⟨p, g, fd, hp, F, hb⟩ := c.ex
  exact pe_prop he c.cl hp F room hb .nil pass0 hab
theorem r_prop {σ : L2.St} {H : Hp} {Q : VK} {C : Addr} {sp : Sp} {E : XK} {ta : TE} (q : ta σ H fun x H1 => ∃ a dx fs, x = .ref a ∧ H1 a = some (.ins C dx fs) ∧ sp [.ref a] H1 Q E) : tProp C sp [] E ta σ H Q := q
end
/-! ### lists of pairs of ints -/
def PairsAt (H : Hp) (ys : List V) (ps : List (Int × Int)) : Prop := ys.length = ps.length ∧ ∀ (i : Nat) (v : V) (p : Int × Int), ys[i]? = some v → ps[i]? = some p → ∃ a, v = .ref a ∧ H a = some (.tup [.int p.1, .int p.2])
theorem PairsAt.sn {H H' : Hp} {ys : List V} {ps : List (Int × Int)} (h : PairsAt H ys ps) (s : KD.SameN H H') : PairsAt H' ys ps := ⟨h.1, fun i v p h1 h2 => by
  obtain ⟨a, e1, e2⟩ := h.2 i v p h1 h2
  exact ⟨a, e1, s.tup e2⟩⟩
theorem PairsAt.up {H H' : Hp} {ys : List V} {ps : List (Int × Int)} (h : PairsAt H ys ps) (s : Same H H') : PairsAt H' ys ps := h.sn (KD.SameN.of s)
theorem PairsAt.nil {H : Hp} : PairsAt H [] [] := ⟨rfl, fun i v p h1 _ => by simp at h1⟩
theorem PairsAt.append {H : Hp} {ys zs : List V} {ps qs : List (Int × Int)} (h : PairsAt H ys ps) (g : PairsAt H zs qs) : PairsAt H (ys ++ zs) (ps ++ qs) := by
  refine ⟨by simp [h.1, g.1], fun i v p h1 h2 => ?_⟩
  by_cases lt : i < ys.length
  · rw [List.getElem?_append_left lt] at h1
    rw [List.getElem?_append_left (by rw [← h.1]; exact lt)] at h2
    exact h.2 i v p h1 h2
  · rw [List.getElem?_append_right (by omega)] at h1
    rw [List.getElem?_append_right (by rw [← h.1]; omega), ← h.1] at h2
    exact g.2 _ v p h1 h2
theorem PairsAt.one {H : Hp} {a : Addr} {p : Int × Int} (e : H a = some (.tup [.int p.1, .int p.2])) : PairsAt H [.ref a] [p] := by
  refine ⟨rfl, fun i v q h1 h2 => ?_⟩
  cases i with
  | zero => cases h1; cases h2; exact ⟨a, rfl, e⟩
  | succ i => simp at h1
theorem PairsAt.snoc {H : Hp} {ys : List V} {ps : List (Int × Int)} {a : Addr} {p : Int × Int} (h : PairsAt H ys ps) (e : H a = some (.tup [.int p.1, .int p.2])) : PairsAt H (ys ++ [.ref a]) (ps ++ [p]) := h.append (.one e)
theorem PairsAt.tail {H : Hp} {y : V} {p : Int × Int} {ys : List V} {ps : List (Int × Int)} (h : PairsAt H (y :: ys) (p :: ps)) : PairsAt H ys ps := ⟨by simpa using h.1, fun i v q h1 h2 => h.2 (i + 1) v q h1 h2⟩
def dPair (p : Int × Int) : PyData := .tuple [.int p.1, .int p.2]
def dPairs (ps : List (Int × Int)) : PyData := .list (ps.map dPair)
theorem PairsAt.dp {K : PySem.W.Frag} {H : Hp} : ∀ {ys : List V} {ps : List (Int × Int)}, PairsAt H ys ps → DpAll K H ys (ps.map dPair)
  | [], [], _ => .nil
  | [], _ :: _, h => by have := h.1; simp at this
  | _ :: _, [], h => by have := h.1; simp at this
  | y :: ys, p :: ps, h => by
    obtain ⟨a, rfl, e⟩ := h.2 0 y p rfl rfl
    exact .cons (.tup (SqT.of e) (.cons (.int _) (.cons (.int _) .nil))) (PairsAt.dp h.tail)
theorem sm_pair {p : Int × Int} (h1 : p.1.natAbs < 10 ^ 12) (h2 : p.2.natAbs < 10 ^ 12) : KV.Sm 33 1 (dPair p) := by
  refine (KV.Sm.tuple (n := 13) (k := 0) (xs := [.int p.1, .int p.2]) fun y my => ?_).mono (by simp) (Nat.le_refl _)
  rcases List.mem_cons.mp my with rfl | my
  · exact KV.Sm.int h1
  · rw [List.mem_singleton.mp my]
    exact KV.Sm.int h2
theorem sm_pairs {ps : List (Int × Int)} (h : ∀ p ∈ ps, p.1.natAbs < 10 ^ 12 ∧ p.2.natAbs < 10 ^ 12) (l : ps.length ≤ 2000) : KV.Sm 70003 2 (dPairs ps) := by
  refine (KV.Sm.list (n := 33) (k := 1) (xs := ps.map dPair) fun x m => ?_).mono (by rw [List.length_map]; omega) (Nat.le_refl _)
  obtain ⟨p, hp, rfl⟩ := List.mem_map.mp m
  exact sm_pair (h p hp).1 (h p hp).2
/-- the pair that a value is -/
noncomputable def pairV (H : Hp) (v : V) : Int × Int := match v with
  | .ref a => match H a with
    | some (.tup [.int i, .int j]) => (i, j)
    | _ => (0, 0)
  | _ => (0, 0)
theorem pairV_at {H : Hp} {a : Addr} {p : Int × Int} (e : H a = some (.tup [.int p.1, .int p.2])) : pairV H (.ref a) = p := by
  simp only [pairV, e]
theorem PairsAt.map {H : Hp} : ∀ {ys : List V} {ps : List (Int × Int)}, PairsAt H ys ps → ys.map (pairV H) = ps ∧ ∀ y ∈ ys, ∃ t, y = .ref t ∧ H t = some (.tup [.int (pairV H y).1, .int (pairV H y).2])
  | [], [], _ => ⟨rfl, fun y m => (List.not_mem_nil m).elim⟩
  | [], _ :: _, h => by have := h.1; simp at this
  | _ :: _, [], h => by have := h.1; simp at this
  | y :: ys, p :: ps, h => by
    obtain ⟨a, rfl, e⟩ := h.2 0 y p rfl rfl
    obtain ⟨m1, m2⟩ := PairsAt.map h.tail
    have e2 := pairV_at e
    refine ⟨by rw [List.map_cons, e2, m1], fun z m => ?_⟩
    rcases List.mem_cons.mp m with rfl | m
    · exact ⟨a, rfl, by rw [e2]; exact e⟩
    · exact m2 z m
/-- sorted(xs) of pairs that ascend already -/
theorem r_sortedUp {K : PySem.W.Frag} {H : Hp} {Q : VK} {a : Addr} {xs : List V} {ps : List (Int × Int)} (sq : SqL K H a xs) (pa : PairsAt H xs ps) (asc : ps.Pairwise fun p q => p.1 < q.1) (q : ∀ p, H p = none → Q (.ref p) (upd H p (.lst xs))) : rSortedPO K [.ref a] H Q := by
  obtain ⟨m1, m2⟩ := pa.map
  refine ⟨a, xs, pairV H, rfl, sq, m2, fun ys p so st np => ?_⟩
  have asc2 : xs.Pairwise fun x y => (pairV H x).1 < (pairV H y).1 := by
    rw [← m1] at asc
    exact (List.pairwise_map (R := fun p q : Int × Int => p.1 < q.1)).mp asc
  have inj : ∀ x ∈ xs, ∀ y ∈ xs, (pairV H x).1 = (pairV H y).1 → x = y := by
    have key : ∀ l : List V, (l.Pairwise fun x y => (pairV H x).1 < (pairV H y).1) → ∀ x ∈ l, ∀ y ∈ l, (pairV H x).1 = (pairV H y).1 → x = y := by
      intro l
      induction l with
      | nil => intro _ x hx; exact (List.not_mem_nil hx).elim
      | cons z l ih =>
        intro pw x hx y hy e
        obtain ⟨p1, p2⟩ := List.pairwise_cons.mp pw
        rcases List.mem_cons.mp hx with rfl | hx2 <;> rcases List.mem_cons.mp hy with rfl | hy2
        · rfl
        · have := p1 y hy2; omega
        · have := p1 x hx2; omega
        · exact ih p2 x hx2 y hy2 e
    exact key xs asc2
  have le_no : ∀ {x y : V}, ltP (pairV H) y x = false → (pairV H x).1 ≤ (pairV H y).1 := fun {x y} h => by
    have z := SrtO.lexB_no.mp h
    omega
  have e : ys = xs := by
    refine List.Perm.eq_of_pairwise (le := fun x y => (pairV H x).1 ≤ (pairV H y).1) (fun x y hx hy h1 h2 => ?_) ?_ ?_ st.perm
    · exact inj x (st.perm.mem_iff.mp hx) y hy (by omega)
    · exact List.Pairwise.imp (fun {x y} h => le_no h) so
    · exact asc2.imp fun h => by omega
  rw [e]
  exact q p np
end KW

/-! KM: what blends do, operation by operation; the normal form read off the columns. -/
namespace KBL
open PySem
theorem ap_made (w : Nat) (s : Int) (m f v : Nat) : f ^^^ (keepN w s m &&& shN w v (shiftN w s m)) = ap w s m f v := ap_norm w s m f v
theorem src_lt {w : Nat} {s : Int} {k p : Nat} (h : w ≤ p) : src w s k p = false := by
  unfold src
  rw [decide_eq_false (by omega)]
  rfl
theorem keepN_idem (w : Nat) (s : Int) (m n : Nat) : keepN w (shiftN w s m) (keepN w s m &&& n) = keepN w s m &&& n := by
  by_cases h : keepN w s m = 0
  · rw [h, Nat.zero_and]
    unfold keepN
    rw [Nat.and_zero]
  · unfold shiftN
    rw [if_neg h]
    refine Nat.eq_of_testBit_eq fun p => ?_
    rw [bit_keep, Nat.testBit_and, bit_keep]
    unfold src
    rw [Nat.testBit_and, bit_keep]
    unfold src
    cases decide (p < w) <;> cases decide (s ≤ (p : Int)) <;> cases decide ((p : Int) - s < w) <;> cases m.testBit p <;> rfl
theorem and_keep (w : Nat) (s : Int) (m : Nat) : keepN w s m &&& onesN w = keepN w s m := by
  refine Nat.eq_of_testBit_eq fun p => ?_
  rw [Nat.testBit_and, show onesN w = 2 ^ w - 1 from rfl, Nat.testBit_two_pow_sub_one]
  by_cases h : p < w
  · rw [decide_eq_true h, Bool.and_true]
  · rw [bit_keep, src_lt (by omega)]
    rfl
theorem keepN_idem0 (w : Nat) (s : Int) (m : Nat) : keepN w (shiftN w s m) (keepN w s m) = keepN w s m := by
  have h := keepN_idem w s m (onesN w)
  rw [and_keep] at h
  exact h
theorem ap_form {w : Nat} {s : Int} {m k' f' v : Nat} (h : keepN w (shiftN w s m) k' = k') : ap w (shiftN w s m) k' f' v = f' ^^^ (k' &&& shN w v (shiftN w s m)) := by
  unfold ap
  rw [h]
theorem bits_ext {a b : Nat} (h : ∀ p, a.testBit p = b.testBit p) : a = b := Nat.eq_of_testBit_eq h
theorem ap_and (w : Nat) (s : Int) (m f n v : Nat) : ap w (shiftN w s m) (keepN w s m &&& n) (f &&& n) v = ap w s m f v &&& n := by
  rw [ap_form (keepN_idem w s m n), ← ap_made]
  refine bits_ext fun p => ?_
  simp only [Nat.testBit_xor, Nat.testBit_and]
  cases f.testBit p <;> cases n.testBit p <;> cases (keepN w s m).testBit p <;> cases (shN w v (shiftN w s m)).testBit p <;> rfl
theorem ap_or {w : Nat} {s : Int} {m f n v : Nat} : ap w (shiftN w s m) (keepN w s m &&& (onesN w ^^^ n)) (f ||| n) v = ap w s m f v ||| n := by
  rw [ap_form (keepN_idem w s m _), ← ap_made]
  refine bits_ext fun p => ?_
  simp only [Nat.testBit_xor, Nat.testBit_and, Nat.testBit_or]
  rw [show onesN w = 2 ^ w - 1 from rfl, Nat.testBit_two_pow_sub_one]
  by_cases h : p < w
  · rw [decide_eq_true h]
    cases f.testBit p <;> cases n.testBit p <;> cases (keepN w s m).testBit p <;> cases (shN w v (shiftN w s m)).testBit p <;> rfl
  · rw [bit_keep, src_lt (by omega)]
    simp
theorem ap_xor (w : Nat) (s : Int) (m f n v : Nat) : ap w (shiftN w s m) (keepN w s m) (f ^^^ n) v = ap w s m f v ^^^ n := by
  rw [ap_form (keepN_idem0 w s m), ← ap_made]
  refine bits_ext fun p => ?_
  simp only [Nat.testBit_xor, Nat.testBit_and]
  cases f.testBit p <;> cases n.testBit p <;> cases (keepN w s m).testBit p <;> cases (shN w v (shiftN w s m)).testBit p <;> rfl
theorem ap_begin {w : Nat} {s : Int} {m f v : Nat} (hv : v < 2 ^ w) : ap w s m f v = (shN w v s &&& m) ^^^ f := by
  refine bits_ext fun p => ?_
  rw [bit_ap hv, Nat.testBit_xor, Nat.testBit_and, bit_sh hv, Bool.xor_comm]
  congr 1
  unfold src
  by_cases h1 : p < w
  · by_cases h2 : s ≤ (p : Int)
    · rw [decide_eq_true h1, decide_eq_true h2]
      by_cases h3 : v.testBit ((p : Int) - s).toNat = true
      · have := bits_below hv h3
        rw [h3, decide_eq_true (show (p : Int) - s < w by omega)]
        cases m.testBit p <;> rfl
      · rw [Bool.eq_false_iff.mpr h3]
        cases m.testBit p <;> simp
    · rw [decide_eq_false h2]
      simp
  · rw [decide_eq_false h1]
    simp
/-- the shift behind a move -/
def movT (w : Nat) (s s' : Int) (k : Nat) : Int := if shN w k s' = 0 then 0 else s + s'
theorem ap_move {w : Nat} {s s' : Int} {m f v : Nat} (hf : f < 2 ^ w) (hv : v < 2 ^ w) : ap w (movT w (shiftN w s m) s' (keepN w s m)) (shN w (keepN w s m) s') (shN w f s') v = shN w (ap w s m f v) s' := by
  have hk := keep_lt w s m
  refine bits_ext fun p => ?_
  rw [bit_ap hv, bit_sh hf, bit_sh (ap_lt hf hv), bit_ap hv]
  by_cases h1 : p < w
  rotate_left
  · rw [src_lt (by omega), decide_eq_false h1]
    rfl
  by_cases h2 : s' ≤ (p : Int)
  rotate_left
  · rw [decide_eq_false h2]
    unfold src
    rw [bit_sh hk, decide_eq_false h2]
    simp
  rw [decide_eq_true h1, decide_eq_true h2, Bool.true_and, Bool.true_and]
  congr 1
  by_cases hz : src w s m ((p : Int) - s').toNat = true
  · have hb : (shN w (keepN w s m) s').testBit p = true := by
      rw [bit_sh hk, decide_eq_true h1, decide_eq_true h2, bit_keep, hz]
      rfl
    have n1 : shN w (keepN w s m) s' ≠ 0 := fun e => by rw [e, Nat.zero_testBit] at hb; cases hb
    have n2 : keepN w s m ≠ 0 := fun e => by
      have := bit_keep w s m ((p : Int) - s').toNat
      rw [hz, e, Nat.zero_testBit] at this
      cases this
    obtain ⟨g1, g2, g3⟩ := src_of hz
    unfold movT shiftN
    rw [if_neg n1, if_neg n2, hz, Bool.true_and]
    have e0 : ((p : Int) - (s + s')).toNat = ((((p : Int) - s').toNat : Int) - s).toNat := by omega
    rw [e0]
    unfold src
    rw [hb, decide_eq_true h1, decide_eq_true (show s + s' ≤ (p : Int) by omega), decide_eq_true (show (p : Int) - (s + s') < w by omega)]
    rfl
  · rw [Bool.eq_false_iff.mpr hz, Bool.false_and]
    have hb : (shN w (keepN w s m) s').testBit p = false := by
      rw [bit_sh hk, decide_eq_true h1, decide_eq_true h2, bit_keep, Bool.eq_false_iff.mpr hz]
      rfl
    unfold src
    rw [hb]
    simp
/-! ### the normal form, column by column -/
theorem column {w : Nat} {s : Int} {m f j : Nat} (hj : j < w) (p : Nat) : (ap w s m f (2 ^ j) ^^^ f).testBit p = (src w s m p && decide ((p : Int) - s = j)) := by
  rw [Nat.testBit_xor, bit_two hj]
  cases f.testBit p <;> cases (src w s m p && decide ((p : Int) - s = j)) <;> rfl
theorem range_next (P : Nat → Bool) (t : Nat) : ∀ n : Nat, (List.range n).filter (fun p => P p && decide (p < t + 1)) = (List.range n).filter (fun p => P p && decide (p < t)) ++ (if t < n ∧ P t = true then [t] else [])
  | 0 => by simp
  | n + 1 => by
    rw [List.range_succ, List.filter_append, List.filter_append, range_next P t n]
    by_cases h1 : t < n
    · have e1 : List.filter (fun p => P p && decide (p < t + 1)) [n] = [] := by
        rw [List.filter_cons, if_neg (by simp; omega)]; rfl
      have e2 : List.filter (fun p => P p && decide (p < t)) [n] = [] := by
        rw [List.filter_cons, if_neg (by simp; omega)]; rfl
      rw [e1, e2, List.append_nil, List.append_nil]
      by_cases h2 : P t = true
      · rw [if_pos ⟨h1, h2⟩, if_pos ⟨by omega, h2⟩]
      · rw [if_neg (fun z => h2 z.2), if_neg (fun z => h2 z.2)]
    · rw [if_neg (fun z => h1 z.1), List.append_nil]
      have e2 : List.filter (fun p => P p && decide (p < t)) [n] = if n < t ∧ P n = true then [n] else [] := by
        rw [List.filter_cons]
        by_cases z : n < t ∧ P n = true
        · rw [if_pos (by simp [z.1, z.2]), if_pos z]; rfl
        · rw [if_neg (by simp; intro a; have : ¬ n < t := fun b => z ⟨b, a⟩; omega), if_neg z]; rfl
      rw [e2]
      by_cases h3 : t = n
      · subst h3
        rw [if_neg (fun z => by omega), List.append_nil]
        congr 1
        rw [List.filter_cons]
        by_cases h4 : P t = true
        · rw [if_pos (by simp [h4]), if_pos ⟨by omega, h4⟩]; rfl
        · rw [if_neg (by simp [h4]), if_neg (fun z => h4 z.2)]; rfl
      · rw [if_neg (show ¬ (t < n + 1 ∧ P t = true) from fun z => by omega), List.append_nil]
        congr 1
        rw [List.filter_cons]
        by_cases h4 : n < t ∧ P n = true
        · rw [if_pos h4, if_pos (by simp [h4.2]; omega)]; rfl
        · rw [if_neg h4, if_neg (by simp; intro a; have : ¬ n < t := fun b => h4 ⟨b, a⟩; omega)]; rfl
/-- the sources, places ascending -/
def srcs (w : Nat) (s : Int) (m : Nat) : List (Int × Int) := ((List.range w).filter (src w s m)).map fun (p : Nat) => ((p : Int), (p : Int) - s)
def srcsTo (w : Nat) (s : Int) (m i : Nat) : List (Int × Int) := ((List.range w).filter fun p => src w s m p && decide ((p : Int) - s < i)).map fun (p : Nat) => ((p : Int), (p : Int) - s)
theorem srcsTo_zero (w : Nat) (s : Int) (m : Nat) : srcsTo w s m 0 = [] := by
  unfold srcsTo
  rw [List.map_eq_nil_iff, List.filter_eq_nil_iff]
  intro p _ h
  simp only [Bool.and_eq_true, decide_eq_true_eq] at h
  have := (src_of h.1)
  omega
theorem srcsTo_all (w : Nat) (s : Int) (m : Nat) : srcsTo w s m w = srcs w s m := by
  unfold srcsTo srcs
  congr 1
  refine List.filter_congr fun p _ => ?_
  by_cases h : src w s m p = true
  · have := src_of h
    rw [h, decide_eq_true (by omega)]
    rfl
  · rw [Bool.eq_false_iff.mpr h]
    rfl
theorem srcsTo_next {w : Nat} {s : Int} {m i p : Nat} (hp : (p : Int) - s = i) (h : src w s m p = true) : srcsTo w s m (i + 1) = srcsTo w s m i ++ [((p : Int), (i : Int))] := by
  have g := src_of h
  have e1 : srcsTo w s m (i + 1) = ((List.range w).filter fun q => src w s m q && decide (q < p + 1)).map fun (q : Nat) => ((q : Int), (q : Int) - s) := by
    unfold srcsTo
    congr 1
    refine List.filter_congr fun q _ => ?_
    congr 1
    exact decide_eq_decide.mpr (by omega)
  have e2 : srcsTo w s m i = ((List.range w).filter fun q => src w s m q && decide (q < p)).map fun (q : Nat) => ((q : Int), (q : Int) - s) := by
    unfold srcsTo
    congr 1
    refine List.filter_congr fun q _ => ?_
    congr 1
    exact decide_eq_decide.mpr (by omega)
  rw [e1, e2, range_next, if_pos ⟨g.1, h⟩, List.map_append, List.map_cons, List.map_nil, hp]
theorem srcsTo_same {w : Nat} {s : Int} {m i : Nat} (h : ∀ p, src w s m p = true → (p : Int) - s ≠ i) : srcsTo w s m (i + 1) = srcsTo w s m i := by
  unfold srcsTo
  congr 1
  refine List.filter_congr fun q _ => ?_
  by_cases z : src w s m q = true
  · have := h q z
    congr 1
    exact decide_eq_decide.mpr (by omega)
  · rw [Bool.eq_false_iff.mpr z]
    rfl
theorem srcs_asc (w : Nat) (s : Int) (m : Nat) : (srcs w s m).Pairwise fun p q => p.1 < q.1 := by
  unfold srcs
  rw [List.pairwise_map]
  refine List.Pairwise.filter _ ?_
  exact (List.pairwise_lt_range).imp fun h => by simpa using h
theorem srcs_len (w : Nat) (s : Int) (m : Nat) : (srcs w s m).length ≤ w := by
  unfold srcs
  rw [List.length_map]
  exact Nat.le_trans (List.length_filter_le _ _) (by simp)
theorem srcs_small {w : Nat} {s : Int} {m : Nat} (hw : w ≤ 32) : ∀ p ∈ srcs w s m, 0 ≤ p.1 ∧ p.1 < w ∧ 0 ≤ p.2 ∧ p.2 < w := by
  intro p hp
  obtain ⟨q, hq, rfl⟩ := List.mem_map.mp hp
  have := src_of (List.mem_filter.mp hq).2
  exact ⟨by omega, by omega, by omega, by omega⟩
/-- what the object yields: by its own keep and shift -/
def srcsK (w : Nat) (s : Int) (k : Nat) : List (Int × Int) := ((List.range w).filter (k.testBit ·)).map fun (p : Nat) => ((p : Int), (p : Int) - s)
theorem srcsK_made (w : Nat) (s : Int) (m : Nat) : srcsK w (shiftN w s m) (keepN w s m) = srcs w s m := by
  unfold srcsK srcs
  by_cases h : keepN w s m = 0
  · have e1 : (List.range w).filter ((keepN w s m).testBit ·) = [] := by
      rw [List.filter_eq_nil_iff]
      intro p _ z
      rw [h, Nat.zero_testBit] at z
      cases z
    have e2 : (List.range w).filter (src w s m) = [] := by
      rw [List.filter_eq_nil_iff]
      intro p _ z
      rw [← bit_keep, h, Nat.zero_testBit] at z
      cases z
    rw [e1, e2]
    rfl
  · unfold shiftN
    rw [if_neg h]
    congr 1
    exact List.filter_congr fun p _ => bit_keep w s m p
end KBL

/-! ### own steps of the reading -/
local macro_rules | `(tactic| walk_at "hp") => `(tactic| first | with_reducible assumption | with_reducible exact L2.upd_same | (refine KB.upd_new ?h1 ?h2; (case h1 => (with_reducible assumption)); (case h2 => walk_at "hp")) | (rw [L2.upd_ne (by first | assumption | exact Ne.symm (by assumption))]; walk_at "hp"))
local macro_rules | `(tactic| walk_at "sq") => `(tactic| first | with_reducible assumption | (refine L2.SqL.of ?h1; (case h1 => walk_at "hp")) | (refine L2.SqT.of ?h1; (case h1 => walk_at "hp")))
local macro_rules | `(tactic| walk_at "sq2") => `(tactic| first | (refine Or.inl ?_; walk_at "sq") | (refine Or.inr ?_; walk_at "sq") | (with_reducible exact Or.inr (by (first | with_reducible assumption | apply_assumption))))
local macro_rules | `(tactic| walk_at "sz") => `(tactic| exact KB.sz_lit (by simp))
local macro_rules | `(tactic| walk_at "cond") => `(tactic| first | (show _ ∨ _; first | exact Or.inl ⟨by omega, by omega⟩ | exact Or.inr ⟨by omega, by omega⟩) | (show _ ∧ _ ∧ _; exact ⟨by omega, by omega, by omega⟩) | (show _ ∧ _; exact ⟨by omega, by omega⟩) | (show _ < _; omega) | (show _ ≤ _; omega))
local macro_rules | `(tactic| walk_at "rd1") => `(tactic| first
  | with_reducible refine KB.r_seq ?_
  | with_reducible refine KB.r_next ?_
  | with_reducible refine KB.r_c ?_
  | ((with_reducible refine KB.r_var (v := ?v1) ?h1 ?q); (case h1 => exact rfl))
  | with_reducible refine KB.r_op ?_
  | with_reducible refine KB.r_un ?_
  | with_reducible refine KB.r_I0 ?_
  | ((with_reducible refine KB.r_I ?h1 ?q); (case h1 => walk_at "cond"))
  | with_reducible refine KB.r_int1 ?_
  | with_reducible refine KB.r_bl1 ?_
  | with_reducible refine KB.r_ex1 ?_
  | with_reducible refine KB.r_ex2 ?_
  | ((with_reducible refine KB.r_lenS (xs := ?v1) ?h1 ?q); (case h1 => walk_at "sq"))
  | ((with_reducible refine KB.r_eq ?h1 ?q); (case h1 => exact rfl))
  | ((with_reducible refine KB.r_ne ?h1 ?q); (case h1 => exact rfl))
  | with_reducible refine KB.r_U ?_
  | with_reducible refine KB.r_test ?_
  | with_reducible refine KB.r_B ?_
  | with_reducible refine KB.r_bl ?_
  | with_reducible refine KB.r_int ?_
  | with_reducible refine KB.r_and ?_
  | with_reducible refine KB.r_or ?_
  | with_reducible refine KB.r_not ?_
  | with_reducible refine KB.r_andV ?_
  | with_reducible refine KB.r_orV ?_
  | with_reducible refine KB.r_notV ?_
  | with_reducible refine KB.r_if ?_
  | with_reducible refine KB.r_nil ?_
  | with_reducible refine KB.r_cons ?_
  | with_reducible refine KB.r_tup ?_
  | with_reducible refine KB.r_lst ?_
  | with_reducible refine KB.r_call ?_
  | with_reducible refine KB.r_cb ?_
  | ((with_reducible refine KB.r_ixL (xs := ?v1) (v := ?v2) ?h1 ?h2 ?q); (case h1 => walk_at "sq"); (case h2 => exact rfl))
  | ((with_reducible refine KB.r_ixT (xs := ?v1) (v := ?v2) ?h1 ?h2 ?q); (case h1 => walk_at "sq"); (case h2 => exact rfl))
  | ((with_reducible refine KB.r_setL (xs := ?v1) (j := ?v2) ?h1 ?h2 ?q); (case h1 => walk_at "hp"); (case h2 => exact rfl))
  | with_reducible refine KB.r_meth ?_
  | with_reducible refine KB.r_fld ?_
  | with_reducible refine KB.r_sfld ?_
  | with_reducible refine KB.r_gname ?_
  | with_reducible refine KB.r_for ?_
  | with_reducible refine KO.r_methK0 ?_
  | with_reducible refine KO.r_makeK ?_
  | with_reducible refine KO.r_joined ?_
  | with_reducible refine KO.r_joined0 ?_
  | with_reducible refine KO.r_fmt ?_
  | with_reducible refine KB.r_isNone ?_
  | ((with_reducible refine KB.r_gtup (xs := ?v1) ?h1 ?h2 ?q); (case h1 => walk_at "sq"); (case h2 => exact rfl))
  | with_reducible refine KB.r_gcons ?_
  | with_reducible refine KB.r_gnil ?_
  | with_reducible refine KB.r_irng2 ?_
  | with_reducible refine KB.r_bm ?_
  | ((with_reducible refine KB.r_tyL (xs := ?v1) ?h1 ?q); (case h1 => walk_at "sq"))
  | ((with_reducible refine KB.r_fldK (C := ?v1) (dx := ?v2) (fs := ?v3) (v := ?v4) ?h1 ?h2 ?h3 ?h4 ?q); (case h1 => walk_at "hp"); (case h2 => assumption); (case h3 => assumption); (case h4 => exact rfl))
  | with_reducible refine KB.r_callD ?_
  | with_reducible refine KB.r_callN ?_
  | with_reducible refine KB.r_dget1 ?_
  | with_reducible refine KB.r_dget ?_
  | with_reducible refine KB.r_dput ?_
  | with_reducible refine KB.r_disp ?_
  | with_reducible refine KB.r_pairs ?_
  | with_reducible refine KB.r_pairs0 ?_
  | with_reducible refine KB.r_make ?_
  | with_reducible refine KB.r_m1 ?_
  | with_reducible refine KB.r_m0 ?_
  | with_reducible refine KB.r_isStr ?_
  | with_reducible refine KB.r_exStr ?_
  | with_reducible refine KB.r_lc ?_
  | with_reducible refine KB.r_irng1 ?_
  | with_reducible refine KB.r_itup ?_
  | with_reducible refine KB.r_ilist ?_
  | with_reducible refine KB.r_istr ?_
  | ((with_reducible refine KB.r_cval (v := ?v1) (mc := ?v2) (uu := ?v3) ?h1 ?h2 ?q); (case h1 => assumption); (case h2 => assumption))
  | ((with_reducible refine KB.r_notInS (zs := ?v1) ?h1 ?q); (case h1 => walk_at "sq2"))
  | ((with_reducible refine KB.r_inS (zs := ?v1) ?h1 ?q); (case h1 => walk_at "sq2"))
  | with_reducible refine KB.r_asg ?_
  | with_reducible refine KB.r_asgS ?_
  | with_reducible refine KB.r_asgG ?_
  | with_reducible refine KB.r_ifS ?_
  | with_reducible refine KB.r_ret ?_
  | with_reducible refine KB.r_drop ?_
  | with_reducible refine KB.r_par ?_
  | with_reducible refine KB.r_match ?_
  | with_reducible refine KB.r_mstr ?_
  | with_reducible refine KB.r_mnil ?_
  | with_reducible refine KB.r_sl ?_
  | with_reducible refine KB.r_nopart ?_
  | with_reducible refine KB.r_part ?_
  | ((with_reducible refine KB.r_slL (xs := ?v1) ?h1 ?q); (case h1 => walk_at "sq"))
  | with_reducible refine L2.iteF ?_
  | with_reducible refine KB.iteNt ?_
  | with_reducible refine KB.iteNf ?_
  | with_reducible refine L2.iteT ?_
  | dsimp only)
local macro_rules | `(tactic| walk_at "rd") => `(tactic| repeat walk_at "rd1")
local macro_rules | `(tactic| walk_at "sp1") => `(tactic| first | with_reducible refine KB.r_iteS2 (fun _ => ?_) (fun _ => ?_) | with_reducible refine KB.r_iteI2 (fun _ => ?_) (fun _ => ?_) | with_reducible refine KB.r_ite2 (fun _ => ?_) (fun _ => ?_) | with_reducible refine KB.r_iteN2 (fun _ => ?_) (fun _ => ?_) | with_reducible refine KB.r_iteB (fun _ => ?_) (fun _ => ?_) | with_reducible refine KB.r_iteBN (fun _ => ?_) (fun _ => ?_))
local macro_rules | `(tactic| walk_at "sp") => `(tactic| repeat' (first | walk_at "rd1" | walk_at "sp1"))
local macro_rules | `(tactic| walk_at "ifs") => `(tactic| repeat (first | rw [if_pos (by assumption)] | rw [if_neg (by assumption)]))

namespace K02
open PySem L2 KB
def top (i : Nat) : Stmt := PySem.Challenge.pw_keptbits_k02_blends_by_operations.main.body.getD i (.Pass ⟨0, 0, 0, 0⟩)
abbrev s_is_integer : Stmt := top 8
theorem sc_is_integer : FnScope ["value"] ["value"] (defScope s_is_integer) := ⟨rfl, rfl, rfl, by decide +kernel, rfl, by decide +kernel, by decide +kernel⟩
abbrev s_need_width : Stmt := top 9
theorem sc_need_width : FnScope ["width"] ["width"] (defScope s_need_width) := ⟨rfl, rfl, rfl, by decide +kernel, rfl, by decide +kernel, by decide +kernel⟩
abbrev s_ones : Stmt := top 10
theorem sc_ones : FnScope ["width"] ["width"] (defScope s_ones) := ⟨rfl, rfl, rfl, by decide +kernel, rfl, by decide +kernel, by decide +kernel⟩
abbrev s_is_word : Stmt := top 11
theorem sc_is_word : FnScope ["width", "value"] ["width", "value"] (defScope s_is_word) := ⟨rfl, rfl, rfl, by decide +kernel, rfl, by decide +kernel, by decide +kernel⟩
abbrev s_need_word : Stmt := top 12
theorem sc_need_word : FnScope ["width", "value"] ["width", "value"] (defScope s_need_word) := ⟨rfl, rfl, rfl, by decide +kernel, rfl, by decide +kernel, by decide +kernel⟩
abbrev s_shifted : Stmt := top 13
theorem sc_shifted : FnScope ["value", "width", "shift"] ["value", "width", "shift"] (defScope s_shifted) := ⟨rfl, rfl, rfl, by decide +kernel, rfl, by decide +kernel, by decide +kernel⟩
abbrev s_need_step : Stmt := top 15
theorem sc_need_step : FnScope ["width", "step"] ["width", "step"] (defScope s_need_step) := ⟨rfl, rfl, rfl, by decide +kernel, rfl, by decide +kernel, by decide +kernel⟩
abbrev s_Blend___init__ : Stmt := inClass (top 16) 0
theorem sc_Blend___init__ : FnScope ["self", "width", "shift", "keep", "flip", "kept"] ["self", "width", "shift", "keep", "flip"] (defScope s_Blend___init__) := ⟨rfl, rfl, rfl, by decide +kernel, rfl, by decide +kernel, by decide +kernel⟩
abbrev s_Blend_constant : Stmt := inClass (top 16) 1
theorem sc_Blend_constant : FnScope ["cls", "width", "value"] ["cls", "width", "value"] (defScope s_Blend_constant) := ⟨rfl, rfl, rfl, by decide +kernel, rfl, by decide +kernel, by decide +kernel⟩
abbrev s_Blend_is_constant : Stmt := inClass (top 16) 2
theorem sc_Blend_is_constant : FnScope ["self"] ["self"] (defScope s_Blend_is_constant) := ⟨rfl, rfl, rfl, by decide +kernel, rfl, by decide +kernel, by decide +kernel⟩
abbrev s_Blend___call__ : Stmt := inClass (top 16) 3
theorem sc_Blend___call__ : FnScope ["self", "value"] ["self", "value"] (defScope s_Blend___call__) := ⟨rfl, rfl, rfl, by decide +kernel, rfl, by decide +kernel, by decide +kernel⟩
abbrev s_Blend___and__ : Stmt := inClass (top 16) 4
theorem sc_Blend___and__ : FnScope ["self", "other"] ["self", "other"] (defScope s_Blend___and__) := ⟨rfl, rfl, rfl, by decide +kernel, rfl, by decide +kernel, by decide +kernel⟩
abbrev s_Blend___rand__ : Stmt := inClass (top 16) 5
theorem sc_Blend___rand__ : FnScope ["self", "other"] ["self", "other"] (defScope s_Blend___rand__) := ⟨rfl, rfl, rfl, by decide +kernel, rfl, by decide +kernel, by decide +kernel⟩
abbrev s_Blend___or__ : Stmt := inClass (top 16) 6
theorem sc_Blend___or__ : FnScope ["self", "other"] ["self", "other"] (defScope s_Blend___or__) := ⟨rfl, rfl, rfl, by decide +kernel, rfl, by decide +kernel, by decide +kernel⟩
abbrev s_Blend___ror__ : Stmt := inClass (top 16) 7
theorem sc_Blend___ror__ : FnScope ["self", "other"] ["self", "other"] (defScope s_Blend___ror__) := ⟨rfl, rfl, rfl, by decide +kernel, rfl, by decide +kernel, by decide +kernel⟩
abbrev s_Blend___xor__ : Stmt := inClass (top 16) 8
theorem sc_Blend___xor__ : FnScope ["self", "other"] ["self", "other"] (defScope s_Blend___xor__) := ⟨rfl, rfl, rfl, by decide +kernel, rfl, by decide +kernel, by decide +kernel⟩
abbrev s_Blend___rxor__ : Stmt := inClass (top 16) 9
theorem sc_Blend___rxor__ : FnScope ["self", "other"] ["self", "other"] (defScope s_Blend___rxor__) := ⟨rfl, rfl, rfl, by decide +kernel, rfl, by decide +kernel, by decide +kernel⟩
abbrev s_Blend___invert__ : Stmt := inClass (top 16) 10
theorem sc_Blend___invert__ : FnScope ["self"] ["self"] (defScope s_Blend___invert__) := ⟨rfl, rfl, rfl, by decide +kernel, rfl, by decide +kernel, by decide +kernel⟩
abbrev s_Blend___lshift__ : Stmt := inClass (top 16) 11
theorem sc_Blend___lshift__ : FnScope ["self", "other"] ["self", "other"] (defScope s_Blend___lshift__) := ⟨rfl, rfl, rfl, by decide +kernel, rfl, by decide +kernel, by decide +kernel⟩
abbrev s_Blend___rshift__ : Stmt := inClass (top 16) 12
theorem sc_Blend___rshift__ : FnScope ["self", "other"] ["self", "other"] (defScope s_Blend___rshift__) := ⟨rfl, rfl, rfl, by decide +kernel, rfl, by decide +kernel, by decide +kernel⟩
abbrev s_Blend___eq__ : Stmt := inClass (top 16) 13
theorem sc_Blend___eq__ : FnScope ["self", "other"] ["self", "other"] (defScope s_Blend___eq__) := ⟨rfl, rfl, rfl, by decide +kernel, rfl, by decide +kernel, by decide +kernel⟩
abbrev s_Blend___repr__ : Stmt := inClass (top 16) 14
theorem sc_Blend___repr__ : FnScope ["self"] ["self"] (defScope s_Blend___repr__) := ⟨rfl, rfl, rfl, by decide +kernel, rfl, by decide +kernel, by decide +kernel⟩
abbrev s_Blend_sources : Stmt := inClass (top 16) 16
theorem sc_Blend_sources : GScope ["self", "place"] ["self"] (defScope s_Blend_sources) := ⟨rfl, rfl, rfl, by decide +kernel, rfl, by decide +kernel, by decide +kernel⟩
abbrev s_moved : Stmt := top 17
theorem sc_moved : FnScope ["blend", "step", "keep", "flip"] ["blend", "step"] (defScope s_moved) := ⟨rfl, rfl, rfl, by decide +kernel, rfl, by decide +kernel, by decide +kernel⟩
abbrev s__law_pen : Stmt := top 19
theorem sc__law_pen : FnScope ["_law_script"] ["_law_script"] (defScope s__law_pen) := ⟨rfl, rfl, rfl, by decide +kernel, rfl, by decide +kernel, by decide +kernel⟩
abbrev s__law_draw : Stmt := top 20
theorem sc__law_draw : FnScope ["_law_pen_here", "_law_many", "_law_digit", "_law_at", "_law_cell", "_law_great", "_law_mixed"] ["_law_pen_here", "_law_many"] (defScope s__law_draw) := ⟨rfl, rfl, rfl, by decide +kernel, rfl, by decide +kernel, by decide +kernel⟩
abbrev s__law_word : Stmt := top 21
theorem sc__law_word : FnScope ["_law_pen_here", "_law_width", "_law_top_here", "_law_any_word", "_law_turn", "_law_other"] ["_law_pen_here", "_law_width"] (defScope s__law_word) := ⟨rfl, rfl, rfl, by decide +kernel, rfl, by decide +kernel, by decide +kernel⟩
abbrev s__law_top : Stmt := top 22
theorem sc__law_top : FnScope ["_law_width"] ["_law_width"] (defScope s__law_top) := ⟨rfl, rfl, rfl, by decide +kernel, rfl, by decide +kernel, by decide +kernel⟩
abbrev s__law_moved : Stmt := top 23
theorem sc__law_moved : FnScope ["_law_width", "_law_value", "_law_step_here"] ["_law_width", "_law_value", "_law_step_here"] (defScope s__law_moved) := ⟨rfl, rfl, rfl, by decide +kernel, rfl, by decide +kernel, by decide +kernel⟩
abbrev s__law_done : Stmt := top 24
theorem sc__law_done : FnScope ["_law_width", "_law_steps", "_law_value", "_law_word_here", "_law_number", "_law_shift", "_law_keep", "_law_flip"] ["_law_width", "_law_steps", "_law_value"] (defScope s__law_done) := ⟨rfl, rfl, rfl, by decide +kernel, rfl, by decide +kernel, by decide +kernel⟩
abbrev s__law_begun : Stmt := top 25
theorem sc__law_begun : FnScope ["_law_pen_here", "_law_width", "_law_pick", "_law_shift", "_law_keep", "_law_flip"] ["_law_pen_here", "_law_width"] (defScope s__law_begun) := ⟨rfl, rfl, rfl, by decide +kernel, rfl, by decide +kernel, by decide +kernel⟩
abbrev s__law_step : Stmt := top 26
theorem sc__law_step : FnScope ["_law_pen_here", "_law_blend", "_law_width", "_law_word_here", "_law_number", "_law_pick"] ["_law_pen_here", "_law_blend"] (defScope s__law_step) := ⟨rfl, rfl, rfl, by decide +kernel, rfl, by decide +kernel, by decide +kernel⟩
abbrev s__law_normal : Stmt := top 27
theorem sc__law_normal : FnScope ["_law_width", "_law_steps", "_law_flip", "_law_keep", "_law_shift", "_law_sources", "_law_source", "_law_column", "_law_places", "_law_place"] ["_law_width", "_law_steps"] (defScope s__law_normal) := ⟨rfl, rfl, rfl, by decide +kernel, rfl, by decide +kernel, by decide +kernel⟩
abbrev s__law_right : Stmt := top 28
theorem sc__law_right : FnScope ["_law_blend", "_law_width", "_law_steps", "_law_words", "_law_value", "_law_k", "_law_shift", "_law_keep", "_law_flip", "_law_sources", "_law_one"] ["_law_blend", "_law_width", "_law_steps", "_law_words"] (defScope s__law_right) := ⟨rfl, rfl, rfl, by decide +kernel, rfl, by decide +kernel, by decide +kernel⟩
abbrev s_law : Stmt := top 29
theorem sc_law : FnScope ["_law_script", "_law_pen_here", "_law_turn", "_law_width", "_law_blend", "_law_first", "_law_steps", "_law_again", "_law_step_here", "_law_words"] ["_law_script"] (defScope s_law) := ⟨rfl, rfl, rfl, by decide +kernel, rfl, by decide +kernel, by decide +kernel⟩

structure Txt (mg : Str → Option Value) : Prop where
  z_int : mg "int" = none
  z_bool : mg "bool" = none
  z_abs : mg "abs" = none
  z_len : mg "len" = none
  z_list : mg "list" = none
  z_str : mg "str" = none
  z_range : mg "range" = none
  z_isinstance : mg "isinstance" = none
  z_repr : mg "repr" = none
  z_sorted : mg "sorted" = none
open KV


section
variable {P : Program} {w : World} {K : PySem.W.Frag} {mg : Str → Option Value} {base : Heap}
theorem ok_pen {f : Addr} {fd : FuncData} {k : Nat} (F : Fun K "_law_pen" "_law_pen" s__law_pen f fd) (T : Txt mg) : FnOk P w K mg base CX0 (k + 1) f fd ["_law_script"] (spPen K) := by
  refine F.ok sc__law_pen (fun vs H Q E h => ?_) (fun cdv A outer s H vs Q E hr h => ?_)
  · obtain ⟨a, ns, rfl, _⟩ := h
    rfl
  · obtain ⟨a, ns, rfl, hS, hl, q⟩ := h
    refine ⟨_, (pss_one (ps_ret (pe_lst (pa_cons (pe_callTy call_list_of (by rfl) T.z_list (by decide +kernel) (pa_cons (pe_slice sl_list (pv 0) po_none (po_some pe_int)) pa_nil)) (pa_cons pe_int (pa_cons pe_int pa_nil)))))), at_start (σ := [some (.ref a)]) rfl ?_⟩
    dsimp only [cx_K]
    walk_at "rd"
    intro c nc
    have ec : cutV (ns.map V.int) none (some 63) = (ns.take 63).map V.int := by
      rw [show (63 : Int) = ((63 : Nat) : Int) from rfl, cutV_take, List.map_take]
    rw [ec]
    walk_at "rd"
    intro l nl
    walk_at "rd"
    refine ⟨by walk_at "sz", fun p np => ?_⟩
    have npl : p ≠ l := fun z => by rw [z, upd_same] at np; cases np
    have s0 := ((same_new (o := .lst ((ns.take 63).map V.int)) nc).trans (same_new (o := .lst ((ns.take 63).map V.int)) nl)).trans (same_new (o := .lst [.ref l, .int 0, .int 0]) np)
    refine q _ p l s0 (((same_new nc).trans (same_new nl)).free np) ((same_new nc).free nl) ⟨ns.take 63, 0, 0, upd_same, upd_new np upd_same, npl, ?_, by omega⟩
    rw [List.length_take]
    omega
theorem ok_draw {f : Addr} {fd : FuncData} {k : Nat} (F : Fun K "_law_draw" "_law_draw" s__law_draw f fd) (T : Txt mg) : FnOk P w K mg base CX0 (k + 1) f fd ["_law_pen_here", "_law_many"] spDraw := by
  refine F.ok sc__law_draw (fun vs H Q E h => ?_) (fun cdv A outer s H vs Q E hr h => ?_)
  · obtain ⟨p, c, many, k, rfl, _⟩ := h
    rfl
  · obtain ⟨p, c, many, k, rfl, hm0, hm1, ⟨ns, at_, left, hp, hc, npc, hn, hat⟩, q⟩ := h
    refine ⟨_, (pss_cons (ps_if (pt_cmpR op_gt (pe_ix ix_list (pv 0) pe_int (fun _ _ => rfl)) pe_int (nomark _)) (pss_cons (ps_set (i := 2) sc__law_draw.nd rfl (by first | exact Or.inl rfl | exact Or.inr rfl) (pe_op op_mod (pe_callTy call_int1 (by rfl) T.z_int (by decide +kernel) (pa_cons (pe_ix ix_list (pv 0) pe_int (fun _ _ => rfl)) pa_nil)) (pv 1)))
 (pss_cons (ps_asg (pe_op op_fdiv (pe_callTy call_int1 (by rfl) T.z_int (by decide +kernel) (pa_cons (pe_ix ix_list (pv 0) pe_int (fun _ _ => rfl)) pa_nil)) (pv 1)) (pg_sub (pv 0) pe_int set_list))
 (pss_one (ps_ret (pv 2)))))
 pss_nil)
 (pss_cons (ps_set (i := 3) sc__law_draw.nd rfl (by first | exact Or.inl rfl | exact Or.inr rfl) (pe_ix ix_list (pv 0) pe_int (fun _ _ => rfl)))
 (pss_cons (ps_asg (pe_op op_add (pv 3) pe_int) (pg_sub (pv 0) pe_int set_list))
 (pss_cons (ps_set (i := 4) sc__law_draw.nd rfl (by first | exact Or.inl rfl | exact Or.inr rfl) (pe_op op_add (pe_op op_mul pe_int (pv 3)) pe_int))
 (Evl.pss_cut (ps_if (pt_cmpR (op_neD hr.units) (pe_ix ix_list (pv 0) pe_int (fun _ _ => rfl)) (pe_lst pa_nil) (nomark _)) (pss_one (ps_set (i := 4) sc__law_draw.nd rfl (by first | exact Or.inl rfl | exact Or.inr rfl) (pe_ix ix_list (pe_ix ix_list (pv 0) pe_int (fun _ _ => rfl)) (pe_op op_mod (pe_callTy call_int1 (by rfl) T.z_int (by decide +kernel) (pa_cons (pv 3) pa_nil)) (pe_callB call_len_seq (by rfl) T.z_len (by decide +kernel) (pa_cons (pe_ix ix_list (pv 0) pe_int (fun _ _ => rfl)) pa_nil))) (fun _ _ => rfl))))
 pss_nil)
 (pss_cons (ps_if (PW.pt (pw_and (pt_cmpR op_lt (pv 3) (pe_callB call_len_seq (by rfl) T.z_len (by decide +kernel) (pa_cons (pe_ix ix_list (pv 0) pe_int (fun _ _ => rfl)) pa_nil)) (nomark _)) (pw_and1 (pt_cmpR op_ge (pe_callB call_abs (by rfl) T.z_abs (by decide +kernel) (pa_cons (pv 4) pa_nil)) (pe_op op_pow pe_int pe_int) (nomark _))))) (pss_cons (ps_set (i := 5) sc__law_draw.nd rfl (by first | exact Or.inl rfl | exact Or.inr rfl) (pe_op op_add (pe_op op_mul pe_int (pe_callB call_abs (by rfl) T.z_abs (by decide +kernel) (pa_cons (pv 4) pa_nil))) (pe_callTy call_int1 (by rfl) T.z_int (by decide +kernel) (pa_cons (pe_cmpR op_lt (pv 4) pe_int (nomark _)) pa_nil))))
 (pss_cons (ps_asg (pe_op op_fdiv (pv 5) (pv 1)) (pg_sub (pv 0) pe_int set_list))
 (pss_one (ps_ret (pe_op op_mod (pe_callTy call_int1 (by rfl) T.z_int (by decide +kernel) (pa_cons (pv 5) pa_nil)) (pv 1))))))
 pss_nil)
 (pss_cons (ps_set (i := 6) sc__law_draw.nd rfl (by first | exact Or.inl rfl | exact Or.inr rfl) (pe_op op_mod (pe_op op_pow (pe_callTy call_int1 (by rfl) T.z_int (by decide +kernel) (pa_cons (pe_op op_add (pe_op op_add (pe_op op_mod (pe_callTy call_int1 (by rfl) T.z_int (by decide +kernel) (pa_cons (pv 4) pa_nil)) pe_int) (pe_op op_mul pe_int (pv 3))) pe_int) pa_nil)) pe_int) pe_int))
 (pss_cons (ps_set (i := 6) sc__law_draw.nd rfl (by first | exact Or.inl rfl | exact Or.inr rfl) (pe_op op_mod (pe_op op_pow (pe_callTy call_int1 (by rfl) T.z_int (by decide +kernel) (pa_cons (pe_op op_add (pe_op op_add (pe_op op_mul (pv 6) (pe_op op_add (pv 3) pe_int)) (pe_op op_mul (pe_op op_mul pe_int (pv 3)) (pv 3))) pe_int) pa_nil)) pe_int) pe_int))
 (pss_one (ps_ret (pe_op op_mod (pe_callTy call_int1 (by rfl) T.z_int (by decide +kernel) (pa_cons (pe_op op_fdiv (pv 6) pe_int) pa_nil)) (pv 1)))))))))))), at_start (σ := [some (.ref p), some (.int many), none, none, none, none, none]) rfl ?_⟩
    dsimp only [cx_K]
    walk_at "rd"
    have upp : ∀ o, upd H p o c = some (.lst (ns.map V.int)) := fun o => by rw [upd_ne npc.symm]; exact hc
    refine r_ite2 (fun h1 => ?_) (fun h1 => ?_)
    · walk_at "rd"
      exact q (left % many) _ (Int.emod_nonneg _ (by omega)) (Int.emod_lt_of_pos _ hm0) ⟨ns, at_, left / many, upd_same, upp _, npc, hn, by omega⟩ fun b o e hb => by rw [upd_ne hb]; exact e
    · walk_at "rd"
      refine ⟨fun σ' H' => ∃ cell : Int, σ' = [some (.ref p), some (.int many), none, some (.int at_), some (.int cell), none, none] ∧ H' p = some (.lst [.ref c, .int (at_ + 1), .int left]) ∧ H' c = some (.lst (ns.map V.int)) ∧ Keep p H H', ?_, ?_⟩
      · walk_at "rd"
        refine ⟨by decide, fun e he => ?_⟩
        have npe : p ≠ e := fun z => by rw [z, upd_same] at he; cases he
        refine r_neInts (ns := ns) (ms := []) (by walk_at "sq") (SqL.of upd_same) ?_
        walk_at "rd"
        have k1 : Keep p H (upd (upd H p (.lst [.ref c, .int (at_ + 1), .int left])) e (.lst [])) := fun b o x hb => upd_new he (by rw [upd_ne hb]; exact x)
        refine r_iteN2 (fun h2 => ?_) (fun h2 => ?_)
        · walk_at "rd"
          have hl : 0 < ns.length := List.length_pos_iff.mpr h2
          rw [List.length_map]
          have hj : (at_ : Int) % (ns.length : Int) = ((at_ % ns.length : Nat) : Int) := by omega
          have hj2 : at_ % ns.length < ns.length := Nat.mod_lt _ hl
          refine r_I (by show (0 : Int) < _; omega) ?_
          refine r_ixL (xs := ns.map V.int) (v := .int (ns[at_ % ns.length])) (by walk_at "sq") (by rw [hj]; exact atI_nat (by simp [hj2])) ?_
          exact ⟨_, rfl, upd_new he upd_same, upd_new he (upp _), k1⟩
        · exact ⟨_, rfl, upd_new he upd_same, upd_new he (upp _), k1⟩
      · rintro σ' H' ⟨cell, rfl, hp1, hc1, k1⟩
        have h6 : ∀ (r : Int) (l2 : Int), 0 ≤ r → r < many → Q (.int r) (upd H' p (.lst [.ref c, .int ((at_ + 1 : Nat) : Int), .int l2])) := fun r l2 h7 h8 =>
          q r _ h7 h8 ⟨ns, at_ + 1, l2, upd_same, by rw [upd_ne npc.symm]; exact hc1, npc, hn, by omega⟩ fun b o x hb => by rw [upd_ne hb]; exact k1 b o x hb
        have h9 : ∀ r : Int, 0 ≤ r → r < many → Q (.int r) H' := fun r h7 h8 => q r _ h7 h8 ⟨ns, at_ + 1, left, hp1, hc1, npc, hn, by omega⟩ k1
        walk_at "rd"
        refine r_ite2 (fun h2 => ?_) (fun h2 => ?_)
        · walk_at "rd"
          refine r_ite2 (fun h3 => ?_) (fun h3 => ?_)
          · walk_at "rd"
            exact h6 _ _ (Int.emod_nonneg _ (by omega)) (Int.emod_lt_of_pos _ hm0)
          · walk_at "rd"
            have m1 : 0 ≤ (cell % 2147483579 + 57131 * (at_ : Int) + 211) ^ Int.toNat 5 % 2147483629 := Int.emod_nonneg _ (by decide)
            have m2 : (cell % 2147483579 + 57131 * (at_ : Int) + 211) ^ Int.toNat 5 % 2147483629 < 2147483629 := Int.emod_lt_of_pos _ (by decide)
            generalize (cell % 2147483579 + 57131 * (at_ : Int) + 211) ^ Int.toNat 5 % 2147483629 = m at m1 m2 ⊢
            have b1 := mul_bd (A := 2147483629) (B := 300000) m1 (by omega) (show 0 ≤ (at_ : Int) + 64007 by omega) (by omega)
            have b2 := mul_bd (A := 100000 * 91009) (B := 100000) (show 0 ≤ 91009 * (at_ : Int) by omega) (by omega) (show 0 ≤ (at_ : Int) by omega) (by omega)
            refine r_I (show CPow _ _ from ⟨by decide, by decide, by omega⟩) ?_
            walk_at "rd"
            exact h9 _ (Int.emod_nonneg _ (by omega)) (Int.emod_lt_of_pos _ hm0)

        · walk_at "rd"
          have m1 : 0 ≤ (cell % 2147483579 + 57131 * (at_ : Int) + 211) ^ Int.toNat 5 % 2147483629 := Int.emod_nonneg _ (by decide)
          have m2 : (cell % 2147483579 + 57131 * (at_ : Int) + 211) ^ Int.toNat 5 % 2147483629 < 2147483629 := Int.emod_lt_of_pos _ (by decide)
          generalize (cell % 2147483579 + 57131 * (at_ : Int) + 211) ^ Int.toNat 5 % 2147483629 = m at m1 m2 ⊢
          have b1 := mul_bd (A := 2147483629) (B := 300000) m1 (by omega) (show 0 ≤ (at_ : Int) + 64007 by omega) (by omega)
          have b2 := mul_bd (A := 100000 * 91009) (B := 100000) (show 0 ≤ 91009 * (at_ : Int) by omega) (by omega) (show 0 ≤ (at_ : Int) by omega) (by omega)
          refine r_I (show CPow _ _ from ⟨by decide, by decide, by omega⟩) ?_
          walk_at "rd"
          exact h9 _ (Int.emod_nonneg _ (by omega)) (Int.emod_lt_of_pos _ hm0)

end

end K02


namespace K02
open PySem L2 KB KO KY KV KW
/-! ### words and blends -/
def W3 (w : Nat) : Prop := w = 8 ∨ w = 16 ∨ w = 32
theorem W3.le {w : Nat} (h : W3 w) : 8 ≤ w ∧ w ≤ 32 := by
  rcases h with rfl | rfl | rfl <;> decide
theorem W3.pow {w : Nat} (h : W3 w) : 2 ^ w ≤ 4294967296 := by
  rcases h with rfl | rfl | rfl <;> decide
def isIntD : Dt → Bool
  | .sc (.int _) => true
  | _ => false
def isBoolD : Dt → Bool
  | .sc (.bl _) => true
  | _ => false
def isW : Dt → Bool
  | .sc (.int i) => decide (i = 8 ∨ i = 16 ∨ i = 32)
  | _ => false
def isWord (w : Nat) : Dt → Bool
  | .sc (.int i) => decide (0 ≤ i ∧ i < (2 ^ w : Nat))
  | _ => false
def isShift (w : Nat) : Dt → Bool
  | .sc (.int i) => decide (0 - (w : Int) ≤ i ∧ i ≤ w)
  | _ => false
theorem isIntD_of {t : Dt} (h : isIntD t = true) : ∃ i, t = .sc (.int i) := by
  cases t with
  | sc s => cases s with
    | int i => exact ⟨i, rfl⟩
    | non => cases h
    | bl => cases h
    | str => cases h
  | tup => cases h
  | lst => cases h
  | dct => cases h
theorem isW_of {t : Dt} (h : isW t = true) : ∃ w : Nat, W3 w ∧ t = .sc (.int w) := by
  cases t with
  | sc s => cases s with
    | int i =>
      have h' : i = 8 ∨ i = 16 ∨ i = 32 := of_decide_eq_true h
      rcases h' with rfl | rfl | rfl
      · exact ⟨8, .inl rfl, rfl⟩
      · exact ⟨16, .inr (.inl rfl), rfl⟩
      · exact ⟨32, .inr (.inr rfl), rfl⟩
    | non => cases h
    | bl => cases h
    | str => cases h
  | tup => cases h
  | lst => cases h
  | dct => cases h
theorem isWord_of {w : Nat} {t : Dt} (h : isWord w t = true) : ∃ n : Nat, n < 2 ^ w ∧ t = .sc (.int n) := by
  cases t with
  | sc s => cases s with
    | int i =>
      have h' : 0 ≤ i ∧ i < (2 ^ w : Nat) := of_decide_eq_true h
      exact ⟨i.toNat, by omega, by rw [show ((i.toNat : Nat) : Int) = i by omega]⟩
    | non => cases h
    | bl => cases h
    | str => cases h
  | tup => cases h
  | lst => cases h
  | dct => cases h
theorem isShift_of {w : Nat} {t : Dt} (h : isShift w t = true) : ∃ s : Int, 0 - (w : Int) ≤ s ∧ s ≤ w ∧ t = .sc (.int s) := by
  cases t with
  | sc s => cases s with
    | int i =>
      have h' : 0 - (w : Int) ≤ i ∧ i ≤ w := of_decide_eq_true h
      exact ⟨i, h'.1, h'.2, rfl⟩
    | non => cases h
    | bl => cases h
    | str => cases h
  | tup => cases h
  | lst => cases h
  | dct => cases h
theorem isWord_nat {w n : Nat} (h : n < 2 ^ w) : isWord w (.sc (.int n)) = true := decide_eq_true ⟨by omega, by omega⟩
theorem isW_nat {w : Nat} (h : W3 w) : isW (.sc (.int w)) = true := by
  rcases h with rfl | rfl | rfl <;> rfl
theorem noInt_noW {t : Dt} (h : isIntD t = false) : isW t = false ∧ (∀ w, isWord w t = false) ∧ ∀ w, isShift w t = false := by
  cases t with
  | sc s => cases s with
    | int i => cases h
    | non => exact ⟨rfl, fun _ => rfl, fun _ => rfl⟩
    | bl => exact ⟨rfl, fun _ => rfl, fun _ => rfl⟩
    | str => exact ⟨rfl, fun _ => rfl, fun _ => rfl⟩
  | tup => exact ⟨rfl, fun _ => rfl, fun _ => rfl⟩
  | lst => exact ⟨rfl, fun _ => rfl, fun _ => rfl⟩
  | dct => exact ⟨rfl, fun _ => rfl, fun _ => rfl⟩
theorem r_isIntD {K : PySem.W.Frag} {H : Hp} {Q : VK} {v : V} {t : Dt} (h : OdAt H v t) (q : Q (.bl (isIntD t || isBoolD t)) H) : rIsi K [v, .ty "int"] H Q := by
  refine ⟨v, .ty "int", _, .type "int", isIntD t || isBoolD t, rfl, .ty _, h.tyX, ?_, q⟩
  have h1 : kitB "NoneType" "int" = some false ∧ kitB "bool" "int" = some true ∧ kitB "int" "int" = some true ∧ kitB "str" "int" = some false ∧ kitB "tuple" "int" = some false ∧ kitB "list" "int" = some false ∧ kitB "dict" "int" = some false := by decide +kernel
  cases t with
  | sc s =>
    cases s with
    | non => exact kit_ty h1.1
    | bl b => exact kit_ty h1.2.1
    | int i => exact kit_ty h1.2.2.1
    | str x => exact kit_ty h1.2.2.2.1
  | tup l => exact kit_ty h1.2.2.2.2.1
  | lst l => exact kit_ty h1.2.2.2.2.2.1
  | dct l => exact kit_ty h1.2.2.2.2.2.2
theorem r_isBoolD {K : PySem.W.Frag} {H : Hp} {Q : VK} {v : V} {t : Dt} (h : OdAt H v t) (q : Q (.bl (isBoolD t)) H) : rIsi K [v, .ty "bool"] H Q := by
  refine ⟨v, .ty "bool", _, .type "bool", isBoolD t, rfl, .ty _, h.tyX, ?_, q⟩
  have h1 : kitB "NoneType" "bool" = some false ∧ kitB "bool" "bool" = some true ∧ kitB "int" "bool" = some false ∧ kitB "str" "bool" = some false ∧ kitB "tuple" "bool" = some false ∧ kitB "list" "bool" = some false ∧ kitB "dict" "bool" = some false := by decide +kernel
  cases t with
  | sc s =>
    cases s with
    | non => exact kit_ty h1.1
    | bl b => exact kit_ty h1.2.1
    | int i => exact kit_ty h1.2.2.1
    | str x => exact kit_ty h1.2.2.2.1
  | tup l => exact kit_ty h1.2.2.2.2.1
  | lst l => exact kit_ty h1.2.2.2.2.2.1
  | dct l => exact kit_ty h1.2.2.2.2.2.2
/-- what the text's classes are -/
structure TxtB (K : PySem.W.Frag) (mg : Str → Option Value) (C aW : Addr) : Prop extends Txt mg where
  cl : Cls K C
  n_width : NoAttr K C "width"
  n_shift : NoAttr K C "shift"
  n_keep : NoAttr K C "keep"
  n_flip : NoAttr K C "flip"
  mg_Blend : mg "Blend" = some (.ref C)
  mg_WIDTHS : mg "WIDTHS" = some (.ref aW)
  widths : ∀ H, SqT K H aW (([8, 16, 32] : List Int).map V.int)
def flB (w s k f : Int) : List (Str × V) := [("width", .int w), ("shift", .int s), ("keep", .int k), ("flip", .int f)]
theorem fb_w {w s k f : Int} : (flB w s k f).lookup ("width" : Str) = some (.int w) := rfl
theorem fb_s {w s k f : Int} : (flB w s k f).lookup ("shift" : Str) = some (.int s) := rfl
theorem fb_k {w s k f : Int} : (flB w s k f).lookup ("keep" : Str) = some (.int k) := rfl
theorem fb_f {w s k f : Int} : (flB w s k f).lookup ("flip" : Str) = some (.int f) := rfl
/-- the blend of the width w: its numbers -/
structure Nm (w : Nat) (s : Int) (k f : Nat) : Prop where
  w3 : W3 w
  lo : 0 - (w : Int) ≤ s
  hi : s ≤ w
  kl : k < 2 ^ w
  fl : f < 2 ^ w
def BlendAt (C : Addr) (H : Hp) (p : Addr) (w : Nat) (s : Int) (k f : Nat) : Prop := Nm w s k f ∧ ∃ dx, H p = some (.ins C dx (flB w s k f))
theorem BlendAt.up {C : Addr} {H H' : Hp} {p : Addr} {w : Nat} {s : Int} {k f : Nat} (h : BlendAt C H p w s k f) (e : Same H H') : BlendAt C H' p w s k f := by
  obtain ⟨n, dx, g⟩ := h
  exact ⟨n, dx, e _ _ g⟩
def spInt : Sp := fun vs H Q _ => ∃ (v : V) (t : Dt), vs = [v] ∧ OdAt H v t ∧ Q (.bl (isIntD t)) H
def spNW (CE : Addr) : Sp := fun vs H Q E => ∃ (v : V) (t : Dt), vs = [v] ∧ OdAt H v t ∧ (isW t = true → Q .non H) ∧ (isW t = false → ∀ d H', Same H H' → H' d = some (.xd [("value", v)]) → E (.ref CE) (some d) H')
def spOnes : Sp := fun vs H Q _ => ∃ w : Nat, vs = [.int w] ∧ w ≤ 32 ∧ Q (.int (KBL.onesN w : Nat)) H
def spIsWord : Sp := fun vs H Q _ => ∃ (w : Nat) (v : V) (t : Dt), vs = [.int w, v] ∧ W3 w ∧ OdAt H v t ∧ Q (.bl (isWord w t)) H
def spNeed (CE : Addr) : Sp := fun vs H Q E => ∃ (w : Nat) (v : V) (t : Dt), vs = [.int w, v] ∧ W3 w ∧ OdAt H v t ∧ (isWord w t = true → Q .non H) ∧ (isWord w t = false → ∀ d H', Same H H' → H' d = some (.xd [("value", v)]) → E (.ref CE) (some d) H')
def spSh : Sp := fun vs H Q _ => ∃ (w v : Nat) (s : Int), vs = [.int v, .int w, .int s] ∧ W3 w ∧ v < 2 ^ w ∧ 0 - (w : Int) ≤ s ∧ s ≤ w ∧ Q (.int (KBL.shN w v s : Nat)) H
/-- the mask that is meant -/
def maskOf (w : Nat) : Dt → Nat
  | .sc (.int i) => i.toNat
  | _ => KBL.onesN w
def isNoneD : Dt → Bool
  | .sc .non => true
  | _ => false
/-- Blend(v1, v2, v3, v4); cW, cS, cR: InvalidWidth, InvalidShift, InvalidWord -/
def spBlend (C cW cS cR : Addr) : Sp := fun vs H Q E => ∃ (p dx : Addr) (v1 v2 v3 v4 : V) (t1 t2 t3 t4 : Dt), vs = [.ref p, v1, v2, v3, v4] ∧ H p = some (.ins C dx []) ∧ OdAt H v1 t1 ∧ OdAt H v2 t2 ∧ OdAt H v3 t3 ∧ OdAt H v4 t4 ∧
  (isW t1 = false → ∀ d H', Same H H' → H' d = some (.xd [("value", v1)]) → E (.ref cW) (some d) H') ∧
  (∀ w : Nat, t1 = .sc (.int w) → W3 w → isShift w t2 = false → ∀ d H', Same H H' → H' d = some (.xd [("value", v2)]) → E (.ref cS) (some d) H') ∧
  (∀ w : Nat, t1 = .sc (.int w) → W3 w → isShift w t2 = true → isNoneD t3 = false → isWord w t3 = false → ∀ d H', Same H H' → H' d = some (.xd [("value", v3)]) → E (.ref cR) (some d) H') ∧
  (∀ w : Nat, t1 = .sc (.int w) → W3 w → isShift w t2 = true → (isNoneD t3 = true ∨ isWord w t3 = true) → isWord w t4 = false → ∀ d H', Same H H' → H' d = some (.xd [("value", v4)]) → E (.ref cR) (some d) H') ∧
  (∀ (w : Nat) (s : Int) (f : Nat), t1 = .sc (.int w) → t2 = .sc (.int s) → t4 = .sc (.int f) → (isNoneD t3 = true ∨ isWord w t3 = true) → Nm w s (KBL.keepN w s (maskOf w t3)) f → ∀ H', BlendAt C H' p w (KBL.shiftN w s (maskOf w t3)) (KBL.keepN w s (maskOf w t3)) f → Keep p H H' → Q .non H')
def spBEq (K : PySem.W.Frag) (C : Addr) : Sp := fun vs H Q _ => (∃ (p p' : Addr) (w w' : Nat) (s s' : Int) (k k' f f' : Nat), vs = [.ref p, .ref p'] ∧ BlendAt C H p w s k f ∧ BlendAt C H p' w' s' k' f' ∧ Q (.bl (decide (w = w' ∧ s = s' ∧ k = k' ∧ f = f'))) H) ∨
  ∃ (p : Addr) (y : V) (w : Nat) (s : Int) (k f : Nat) (T : String), vs = [.ref p, y] ∧ BlendAt C H p w s k f ∧ TyX K H y (.type T) ∧ PySem.W.kitOne K (.type T) (.ref C) = some false ∧ Q (.bl false) H
def spBRepr (C : Addr) : Sp := fun vs H Q _ => ∃ (p : Addr) (w : Nat) (s : Int) (k f : Nat), vs = [.ref p] ∧ BlendAt C H p w s k f ∧ Q (.str (KBL.bText w s k f)) H
def spBCall (C cR : Addr) : Sp := fun vs H Q E => ∃ (p : Addr) (w : Nat) (s : Int) (k f : Nat) (v : V) (t : Dt), vs = [.ref p, v] ∧ BlendAt C H p w s k f ∧ OdAt H v t ∧
  (∀ n : Nat, n < 2 ^ w → t = .sc (.int n) → Q (.int ((f ^^^ (k &&& KBL.shN w n s) : Nat) : Int)) H) ∧ (isWord w t = false → ∀ d H', Same H H' → H' d = some (.xd [("value", v)]) → E (.ref cR) (some d) H')
theorem non_of {H : Hp} {v : V} {t : Dt} (h : OdAt H v t) : (isNoneD t = true → v = .non) ∧ (isNoneD t = false → v ≠ .non) := by
  cases t with
  | sc s =>
    obtain rfl : v = s.v := h
    cases s with
    | non => exact ⟨fun _ => rfl, fun z => by cases z⟩
    | bl => exact ⟨(fun z => by cases z), fun _ z => by cases z⟩
    | int => exact ⟨(fun z => by cases z), fun _ z => by cases z⟩
    | str => exact ⟨(fun z => by cases z), fun _ z => by cases z⟩
  | tup l => obtain ⟨a, rfl, _⟩ := h; exact ⟨(fun z => by cases z), fun _ z => by cases z⟩
  | lst l => obtain ⟨a, rfl, _⟩ := h; exact ⟨(fun z => by cases z), fun _ z => by cases z⟩
  | dct l => obtain ⟨a, rfl, _⟩ := h; exact ⟨(fun z => by cases z), fun _ z => by cases z⟩
theorem keep_ones (w : Nat) (s : Int) : KBL.shN w (KBL.onesN w) s = KBL.keepN w s (KBL.onesN w) := by
  unfold KBL.keepN
  conv => rhs; rw [show KBL.onesN w = 2 ^ w - 1 from rfl]
  rw [Nat.and_two_pow_sub_one_eq_mod]
  exact (Nat.mod_eq_of_lt (KBL.sh_lt (KBL.ones_lt w))).symm
theorem isShift_int (w : Nat) (i : Int) : isShift w (.sc (.int i)) = decide (0 - (w : Int) ≤ i ∧ i ≤ w) := rfl
theorem numBits {w : Nat} {s : Int} {k f : Nat} (h : Nm w s k f) : (w : Int).natAbs.log2 < 1920 ∧ s.natAbs.log2 < 1920 ∧ (k : Int).natAbs.log2 < 1920 ∧ (f : Int).natAbs.log2 < 1920 := by
  have small : ∀ n : Nat, n < 4294967297 → n.log2 < 1920 := fun n hn => by
    by_cases z : n = 0
    · rw [z]; decide
    · exact (Nat.log2_lt z).mpr (Nat.lt_of_lt_of_le hn (by
        have : (4294967297 : Nat) ≤ 2 ^ 33 := by decide
        exact Nat.le_trans this (Nat.pow_le_pow_right (by decide) (by decide))))
  have wp := h.w3.pow
  have wl := h.w3.le
  have := h.lo
  have := h.hi
  have := h.kl
  have := h.fl
  exact ⟨small _ (by omega), small _ (by omega), small _ (by omega), small _ (by omega)⟩
/-! ### {8: a, 16: b, 32: c}[w] -/
def pickW (w : Nat) (a b c : Int) : Int := if w = 8 then a else if w = 16 then b else c
theorem wdict_val {w : Nat} (w3 : W3 w) (a b c : Int) : valV (mergeK [] [((Sum.inl 8 : Key), V.int a), (Sum.inl 16, .int b), (Sum.inl 32, .int c)]) (Sum.inl (w : Int)) = some (.int (pickW w a b c)) := by
  rcases w3 with rfl | rfl | rfl <;> rfl
theorem r_wdict {σ : L2.St} {H : Hp} {Q : VK} {a b c : Int} {tk : TE} {w : Nat} (w3 : W3 w) (hk : ∀ (H' : Hp) (Q' : VK), Q' (.int w) H' → tk σ H' Q') (q : ∀ H', Same H H' → Q (.int (pickW w a b c)) H') :
    ∀ p, H p = none → tPairs [(tC (.int 8), tC (.int a)), (tC (.int 16), tC (.int b)), (tC (.int 32), tC (.int c))] σ (upd H p (.dK [])) fun ps H2 => H2 p = some (.dK []) ∧ ∃ kvs : List (Key × V), ps = kvs.map (fun kv => (kV kv.1, kv.2)) ∧ kvs.length ≤ 15 ∧
      tk σ (upd H2 p (.dK (mergeK [] kvs))) fun y H2 => ∃ a v, V.ref p = .ref a ∧ DGet H2 a y (some v) ∧ Q v H2 := by
  intro p np
  refine ⟨upd_same, [(.inl 8, .int a), (.inl 16, .int b), (.inl 32, .int c)], rfl, by simp, hk _ _ ⟨p, _, rfl, ?_, q _ ?_⟩⟩
  · exact wdict_val w3 a b c ▸ DGet.k (k := .inl (w : Int)) upd_same
  · exact same_mut (same_new np) np
theorem mono_var1 {i : Nat} {v : V} {σ : L2.St} (h : σ[i]? = some (some v)) (H : Hp) (Q : VK) (q : Q v H) : tVar i σ H Q := ⟨v, h, q⟩
theorem top_is {w : Nat} (w3 : W3 w) : pickW w 255 65535 4294967295 = ((KBL.onesN w : Nat) : Int) := by
  rcases w3 with rfl | rfl | rfl <;> rfl


section
variable {P : Program} {w : World} {K : PySem.W.Frag} {mg : Str → Option Value} {base : Heap}
theorem ok_int {f : Addr} {fd : FuncData} {k : Nat} (F : Fun K "is_integer" "is_integer" s_is_integer f fd) (T : Txt mg) : FnOk P w K mg base CX0 (k + 1) f fd ["value"] spInt := by
  refine F.ok sc_is_integer (fun vs H Q E h => ?_) (fun cdv A outer s H vs Q E hr h => ?_)
  · obtain ⟨v, t, rfl, _⟩ := h
    rfl
  · obtain ⟨v, t, rfl, od, q⟩ := h
    refine ⟨_, (pss_one (ps_ret (pe_and (pe_callB call_isi (by rfl) T.z_isinstance (by decide +kernel) (pa_cons (pv 0) (pa_cons (pe_bltn (v := .ty "int") (by rfl) T.z_int (by decide +kernel) rfl) pa_nil))) (pe_one (pe_not (pe_callB call_isi (by rfl) T.z_isinstance (by decide +kernel) (pa_cons (pv 0) (pa_cons (pe_bltn (v := .ty "bool") (by rfl) T.z_bool (by decide +kernel) rfl) pa_nil)))))))), at_start (σ := [some v]) rfl ?_⟩
    try dsimp only [cx_K]
    walk_at "rd"
    refine r_isIntD od ?_
    walk_at "rd"
    refine r_iteB (fun h => ?_) (fun h => ?_)
    · walk_at "rd"
      refine r_isBoolD od ?_
      walk_at "rd"
      have e : (!isBoolD t) = isIntD t := by
        cases t with
        | sc s => cases s <;> first | rfl | cases h
        | tup => cases h
        | lst => cases h
        | dct => cases h
      rw [e]
      exact q
    · have e : isIntD t = false := by
        cases hh : isIntD t with
        | false => rfl
        | true => rw [hh] at h; cases h
      rw [e] at q
      walk_at "rd"
      exact q
theorem ok_nw {f C aW CE : Addr} {fd : FuncData} (F : Fun K "need_width" "need_width" s_need_width f fd) (T : TxtB K mg C aW) (e_InvalidWidth : KX.ErrMk P w K mg base CE "InvalidWidth" "value") (c_is_integer : KB.Callee P w K mg base CX0 1 "is_integer" ["value"] spInt) : FnOk P w K mg base (L2.CX P w) 3 f fd ["width"] (spNW CE) := by
  refine F.okX sc_need_width (fun vs H Q E h => ?_) (fun cdv A outer s H vs Q E hr h => ?_)
  · obtain ⟨v, t, rfl, _⟩ := h
    rfl
  · obtain ⟨v, t, rfl, od, q, x⟩ := h
    refine ⟨_, (pss_one (ps_if (PW.pt (pw_or (pt_not (pt_val (pe_callC c_is_integer (hr.mono (by decide)) (by rfl) pass0 (pa_cons (pv 0) pa_nil)))) (pw_or1 (pt_cmpR op_notIn_seq (pv 0) (pe_glob (v := .ref _) (by rfl) T.mg_WIDTHS rfl) (by rfl))))) (pss_one (ps_raise rfl KL.def_takes (KX.pmkC e_InvalidWidth (hr.mono (by decide)) (by rfl) (pa_cons (pv 0) pa_nil))))
 pss_nil)), at_start (σ := [some v]) rfl ?_⟩
    try dsimp only [KC.cx_KX]
    walk_at "rd"
    refine ⟨v, t, rfl, od, ?_⟩
    walk_at "rd"
    refine r_iteBN (fun z => ?_) (fun z => ?_)
    · walk_at "rd"
      refine KX.r_raiseO ?_ KX.mono_var
      walk_at "rd"
      exact fun d H' sm hd => x (noInt_noW z).1 d H' sm hd
    · obtain ⟨i, rfl⟩ := isIntD_of z
      obtain rfl : v = .int i := od
      walk_at "rd"
      refine r_notInI (zs := [8, 16, 32]) (.inr (T.widths _)) ?_
      walk_at "rd"
      refine r_iteN2 (fun h => ?_) (fun h => ?_)
      · walk_at "rd"
        refine KX.r_raiseO ?_ KX.mono_var
        walk_at "rd"
        exact fun d H' sm hd => x (decide_eq_false (fun y => h (by simpa using y))) d H' sm hd
      · walk_at "rd"
        exact q (decide_eq_true (by simpa using h))
theorem ok_ones {f : Addr} {fd : FuncData} {k : Nat} (F : Fun K "ones" "ones" s_ones f fd) : FnOk P w K mg base CX0 (k + 1) f fd ["width"] spOnes := by
  refine F.ok sc_ones (fun vs H Q E h => ?_) (fun cdv A outer s H vs Q E hr h => ?_)
  · obtain ⟨v, rfl, _⟩ := h
    rfl
  · obtain ⟨w, rfl, hw, q⟩ := h
    refine ⟨_, (pss_one (ps_ret (pe_op op_sub (pe_op op_shl pe_int (pv 0)) pe_int))), at_start (σ := [some (.int w)]) rfl ?_⟩
    try dsimp only [cx_K]
    walk_at "rd"
    have e : ((1 : Int) * 2 ^ ((w : Int)).toNat - 1) = ((KBL.onesN w : Nat) : Int) := by
      have := Nat.two_pow_pos w
      unfold KBL.onesN
      rw [Int.toNat_natCast, Int.one_mul, Int.natCast_sub (by omega), Int.natCast_pow]
      rfl
    rw [e]
    exact q
theorem ok_sh {f : Addr} {fd : FuncData} (F : Fun K "shifted" "shifted" s_shifted f fd) (c_ones : KB.Callee P w K mg base CX0 1 "ones" ["width"] spOnes) : FnOk P w K mg base CX0 2 f fd ["value", "width", "shift"] spSh := by
  refine F.ok sc_shifted (fun vs H Q E h => ?_) (fun cdv A outer s H vs Q E hr h => ?_)
  · obtain ⟨w, v, s, rfl, _⟩ := h
    rfl
  · obtain ⟨w, v, s, rfl, w3, hv, lo, hi, q⟩ := h
    have wl := w3.le
    have wp := w3.pow
    unfold KBL.shN at q
    refine ⟨_, (pss_cons (ps_if (pt_cmpR op_lt (pv 2) pe_int (nomark _)) (pss_one (ps_ret (pe_op op_shr (pv 0) (pe_op op_sub pe_int (pv 2)))))
 pss_nil)
 (pss_one (ps_ret (pe_op op_and (pe_op op_shl (pv 0) (pv 2)) (pe_callC c_ones (hr.mono (by decide)) (by rfl) pass0 (pa_cons (pv 1) pa_nil)))))), at_start (σ := [some (.int v), some (.int w), some (.int s)]) rfl ?_⟩
    try dsimp only [cx_K]
    walk_at "rd"
    refine r_ite2 (fun h => ?_) (fun h => ?_)
    · rw [if_pos h] at q
      walk_at "rd"
      rw [KBL.ofShr]
      exact q
    · rw [if_neg h] at q
      walk_at "rd"
      refine ⟨w, rfl, wl.2, ?_⟩
      walk_at "rd"
      rw [KBL.shl_and]
      exact q
theorem ok_isword {f C aW CE : Addr} {fd : FuncData} (F : Fun K "is_word" "is_word" s_is_word f fd) (c_need_width : KB.Callee P w K mg base (L2.CX P w) 3 "need_width" ["width"] (spNW CE)) (c_is_integer : KB.Callee P w K mg base CX0 1 "is_integer" ["value"] spInt) (c_ones : KB.Callee P w K mg base CX0 1 "ones" ["width"] spOnes) : FnOk P w K mg base CX0 4 f fd ["width", "value"] spIsWord := by
  refine F.ok sc_is_word (fun vs H Q E h => ?_) (fun cdv A outer s H vs Q E hr h => ?_)
  · obtain ⟨w, v, t, rfl, _⟩ := h
    rfl
  · obtain ⟨w, v, t, rfl, w3, od, q⟩ := h
    have wl := w3.le
    refine ⟨_, (pss_cons (ps_expr (pe_callC c_need_width (hr.mono (by decide)) (by rfl) passL (pa_cons (pv 0) pa_nil)))
 (pss_one (ps_ret (pe_and (pe_callC c_is_integer (hr.mono (by decide)) (by rfl) pass0 (pa_cons (pv 1) pa_nil)) (pe_one (pe_chain op_le op_le pe_int (pv 1) (pe_callC c_ones (hr.mono (by decide)) (by rfl) pass0 (pa_cons (pv 0) pa_nil)))))))), at_start (σ := [some (.int w), some v]) rfl ?_⟩
    try dsimp only [cx_K]
    walk_at "rd"
    refine ⟨_, .sc (.int w), rfl, rfl, fun _ => ?_, fun z => by rw [isW_nat w3] at z; cases z⟩
    walk_at "rd"
    refine ⟨v, t, rfl, od, ?_⟩
    walk_at "rd"
    refine r_iteB (fun z => ?_) (fun z => ?_)
    · obtain ⟨i, rfl⟩ := isIntD_of z
      obtain rfl : v = .int i := od
      walk_at "rd"
      have e : isWord w (.sc (.int i)) = decide (0 ≤ i ∧ i ≤ (KBL.onesN w : Nat)) := by
        have := Nat.two_pow_pos w
        show decide (0 ≤ i ∧ i < (2 ^ w : Nat)) = _
        unfold KBL.onesN
        by_cases h : 0 ≤ i ∧ i < (2 ^ w : Nat)
        · rw [decide_eq_true h, decide_eq_true (by omega)]
        · rw [decide_eq_false h, decide_eq_false (by omega)]
      rw [e] at q
      refine KC.r_chain ?_
      walk_at "rd"
      refine r_ite2 (fun h => ?_) (fun h => ?_)
      · walk_at "rd"
        refine ⟨w, rfl, wl.2, ?_⟩
        walk_at "rd"
        have e2 : decide (i ≤ ((KBL.onesN w : Nat) : Int)) = decide (0 ≤ i ∧ i ≤ (KBL.onesN w : Nat)) := by
          by_cases h2 : i ≤ ((KBL.onesN w : Nat) : Int)
          · rw [decide_eq_true h2, decide_eq_true ⟨h, h2⟩]
          · rw [decide_eq_false h2, decide_eq_false (fun y => h2 y.2)]
        rw [e2]
        exact q
      · walk_at "rd"
        rw [decide_eq_false (fun y => h y.1)] at q
        exact q
    · walk_at "rd"
      rw [(noInt_noW z).2.1 w] at q
      exact q
theorem ok_need {f CE : Addr} {fd : FuncData} (F : Fun K "need_word" "need_word" s_need_word f fd) (e_InvalidWord : KX.ErrMk P w K mg base CE "InvalidWord" "value") (c_is_word : KB.Callee P w K mg base CX0 4 "is_word" ["width", "value"] spIsWord) : FnOk P w K mg base (L2.CX P w) 5 f fd ["width", "value"] (spNeed CE) := by
  refine F.okX sc_need_word (fun vs H Q E h => ?_) (fun cdv A outer s H vs Q E hr h => ?_)
  · obtain ⟨w, v, t, rfl, _⟩ := h
    rfl
  · obtain ⟨w, v, t, rfl, w3, od, q, x⟩ := h
    refine ⟨_, (pss_one (ps_if (pt_not (pt_val (pe_callC c_is_word (hr.mono (by decide)) (by rfl) pass0 (pa_cons (pv 0) (pa_cons (pv 1) pa_nil))))) (pss_one (ps_raise rfl KL.def_takes (KX.pmkC e_InvalidWord (hr.mono (by decide)) (by rfl) (pa_cons (pv 1) pa_nil))))
 pss_nil)), at_start (σ := [some (.int w), some v]) rfl ?_⟩
    try dsimp only [KC.cx_KX]
    walk_at "rd"
    refine ⟨w, v, t, rfl, w3, od, ?_⟩
    walk_at "rd"
    refine r_iteBN (fun z => ?_) (fun z => ?_)
    · walk_at "rd"
      refine KX.r_raiseO ?_ KX.mono_var
      walk_at "rd"
      exact fun d H' sm hd => x z d H' sm hd
    · walk_at "rd"
      exact q z
theorem ok_blend {f C aW cW cS cR : Addr} {fd : FuncData} (F : FunD K "__init__" "Blend.__init__" (defArgs s_Blend___init__) (defBody s_Blend___init__) (defScope s_Blend___init__) [.int 0, .non, .int 0] [] f fd) (T : TxtB K mg C aW) (e_InvalidShift : KX.ErrMk P w K mg base cS "InvalidShift" "value")
    (c_need_width : KB.Callee P w K mg base (L2.CX P w) 3 "need_width" ["width"] (spNW cW)) (c_is_integer : KB.Callee P w K mg base CX0 1 "is_integer" ["value"] spInt) (c_need_word : KB.Callee P w K mg base (L2.CX P w) 5 "need_word" ["width", "value"] (spNeed cR))
    (c_ones : KB.Callee P w K mg base CX0 1 "ones" ["width"] spOnes) (c_shifted : KB.Callee P w K mg base CX0 2 "shifted" ["value", "width", "shift"] spSh) : FnOk P w K mg base (L2.CX P w) 6 f fd ["self", "width", "shift", "keep", "flip"] (spBlend C cW cS cR) := by
  refine F.ok sc_Blend___init__ (fun vs H Q E h => ?_) (fun cdv A outer s H vs Q E hr h => ?_)
  · obtain ⟨p, dx, v1, v2, v3, v4, t1, t2, t3, t4, rfl, _⟩ := h
    rfl
  · obtain ⟨p, dx, v1, v2, v3, v4, t1, t2, t3, t4, rfl, hp, o1, o2, o3, o4, x1, x2, x3, x4, q⟩ := h
    refine ⟨_, (pss_cons (ps_expr (pe_callC c_need_width (hr.mono (by decide)) (by rfl) (passes_call KL.def_takes fun _ _ _ _ h => h) (pa_cons (pv 1) pa_nil)))
 (pss_cons (ps_if (PW.pt (pw_or (pt_not (pt_val (pe_callC c_is_integer (hr.mono (by decide)) (by rfl) pass0 (pa_cons (pv 2) pa_nil)))) (pw_or1 (pt_not (pt_chain op_le op_le (pe_op op_sub pe_int (pv 1)) (pv 2) (pv 1)))))) (pss_one (ps_raise rfl KL.def_takes (KX.pmkC e_InvalidShift (hr.mono (by decide)) (by rfl) (pa_cons (pv 2) pa_nil))))
 pss_nil)
 (Evl.pss_cut (ps_if (pt_cmpR op_notN (pv 3) pe_non (nomark _)) (pss_one (ps_expr (pe_callC c_need_word (hr.mono (by decide)) (by rfl) (passes_call KL.def_takes fun _ _ _ _ h => h) (pa_cons (pv 1) (pa_cons (pv 3) pa_nil)))))
 pss_nil)
 (pss_cons (ps_expr (pe_callC c_need_word (hr.mono (by decide)) (by rfl) (passes_call KL.def_takes fun _ _ _ _ h => h) (pa_cons (pv 1) (pa_cons (pv 4) pa_nil))))
 (pss_cons (ps_set (i := 5) sc_Blend___init__.nd rfl (by first | exact Or.inl rfl | exact Or.inr rfl) (pe_callC c_shifted (hr.mono (by decide)) (by rfl) pass0 (pa_cons (pe_callC c_ones (hr.mono (by decide)) (by rfl) pass0 (pa_cons (pv 1) pa_nil)) (pa_cons (pv 1) (pa_cons (pv 2) pa_nil)))))
 (Evl.pss_cut (ps_if (pt_cmpR op_notN (pv 3) pe_non (nomark _)) (pss_one (ps_set (i := 5) sc_Blend___init__.nd rfl (by first | exact Or.inl rfl | exact Or.inr rfl) (pe_op op_and (pv 5) (pv 3))))
 pss_nil)
 (pss_cons (ps_fld (pv 0) (pv 1) rfl)
 (pss_cons (ps_fld (pv 0) (pe_ifExp (pt_cmpR op_eq (pv 5) pe_int (nomark _)) pe_int (pv 2)) rfl)
 (pss_cons (ps_fld (pv 0) (pv 5) rfl)
 (pss_one (ps_fld (pv 0) (pv 4) rfl))))))))))), at_start (σ := [some (.ref p), some v1, some v2, some v3, some v4, none]) rfl ?_⟩
    try dsimp only [KC.cx_KX]
    walk_at "rd"
    refine ⟨v1, t1, rfl, o1, fun hw => ?_, fun hw d H' sm hd => x1 hw d H' sm hd⟩
    obtain ⟨w, w3, rfl⟩ := isW_of hw
    obtain rfl : v1 = .int w := o1
    replace x2 := x2 w rfl w3
    replace x3 := x3 w rfl w3
    replace x4 := x4 w rfl w3
    walk_at "rd"
    refine ⟨v2, t2, rfl, o2, ?_⟩
    walk_at "rd"
    refine r_iteBN (fun z => ?_) (fun z => ?_)
    · walk_at "rd"
      refine KX.r_raiseO ?_ KX.mono_var
      walk_at "rd"
      exact fun d H' sm hd => x2 ((noInt_noW z).2.2 w) d H' sm hd
    obtain ⟨sh, rfl⟩ := isIntD_of z
    obtain rfl : v2 = .int sh := o2
    walk_at "rd"
    refine KC.r_chain ?_
    walk_at "rd"
    have bad : ¬ (0 - (w : Int) ≤ sh ∧ sh ≤ w) → ∀ (d : Addr) (H' : Hp), Same H H' → H' d = some (.xd [("value", .int sh)]) → E (.ref cS) (some d) H' := fun y => x2 (decide_eq_false y)
    refine r_ite2 (fun lo => ?_) (fun lo => ?_)
    rotate_left
    · walk_at "rd"
      refine KX.r_raiseO ?_ KX.mono_var
      walk_at "rd"
      exact bad fun y => lo y.1
    walk_at "rd"
    refine r_iteN2 (fun hi => ?_) (fun hi => ?_)
    · walk_at "rd"
      refine KX.r_raiseO ?_ KX.mono_var
      walk_at "rd"
      exact bad fun y => hi y.2
    have yes : isShift w (.sc (.int sh)) = true := decide_eq_true ⟨lo, hi⟩
    replace x3 := x3 yes
    replace x4 := x4 yes
    clear x1 x2 bad
    obtain ⟨nn1, nn2⟩ := non_of o3
    walk_at "rd"
    refine ⟨fun σ' H' => σ' = [some (.ref p), some (.int w), some (.int sh), some v3, some v4, none] ∧ H' = H ∧ (isNoneD t3 = true ∨ isWord w t3 = true), ?_, ?_⟩
    · walk_at "rd"
      refine r_iteN2 (fun hn => ?_) (fun hn => ?_)
      · have hn' : isNoneD t3 = false := by
          cases e : isNoneD t3 with
          | false => rfl
          | true => exact absurd (nn1 e) hn
        walk_at "rd"
        refine ⟨w, v3, t3, rfl, w3, o3, fun y => ?_, fun y d H' sm hd => x3 hn' y d H' sm hd⟩
        exact ⟨rfl, rfl, .inr y⟩
      · have hn' : isNoneD t3 = true := by
          cases e : isNoneD t3 with
          | true => rfl
          | false => exact absurd hn (nn2 e)
        walk_at "rd"
        exact ⟨rfl, rfl, .inl hn'⟩
    rintro σ' H' ⟨rfl, rfl, hm⟩
    replace x4 := x4 hm
    clear x3
    walk_at "rd"
    refine ⟨w, v4, t4, rfl, w3, o4, fun y => ?_, fun y d H'' sm hd => x4 y d H'' sm hd⟩
    obtain ⟨f4, fl, rfl⟩ := isWord_of y
    obtain rfl : v4 = .int f4 := o4
    clear x4
    walk_at "rd"
    refine ⟨w, rfl, w3.le.2, ?_⟩
    walk_at "rd"
    refine ⟨w, KBL.onesN w, sh, rfl, w3, KBL.ones_lt w, lo, hi, ?_⟩
    walk_at "rd"
    refine ⟨fun σ' H'' => σ' = [some (.ref p), some (.int w), some (.int sh), some v3, some (.int f4), some (.int ((KBL.keepN w sh (maskOf w t3) : Nat) : Int))] ∧ H'' = H', ?_, ?_⟩
    · walk_at "rd"
      refine r_iteN2 (fun hn => ?_) (fun hn => ?_)
      · obtain ⟨n3, l3, rfl⟩ : ∃ n : Nat, n < 2 ^ w ∧ t3 = .sc (.int n) := by
          rcases hm with y | y
          · exact absurd (nn1 y) hn
          · exact isWord_of y
        obtain rfl : v3 = .int n3 := o3
        walk_at "rd"
        rw [KBL.bAnd]
        exact ⟨rfl, rfl⟩
      · have e3 : maskOf w t3 = KBL.onesN w := by
          rcases hm with y | y
          · cases t3 with
            | sc s => cases s <;> first | rfl | cases y
            | tup => rfl
            | lst => rfl
            | dct => rfl
          · obtain ⟨n, _, rfl⟩ := isWord_of y
            obtain rfl : v3 = .int n := o3
            cases hn
        walk_at "rd"
        rw [keep_ones, ← e3]
        exact ⟨rfl, rfl⟩
    rintro σ' H'' ⟨rfl, rfl⟩
    have nm : Nm w sh (KBL.keepN w sh (maskOf w t3)) f4 := ⟨w3, lo, hi, KBL.keep_lt _ _ _, fl⟩
    replace q := q w sh f4 rfl rfl rfl hm nm
    walk_at "rd"
    refine ⟨p, C, dx, _, rfl, hp, T.cl, T.n_width, (by decide), ?_⟩
    walk_at "rd"
    have fin : ∀ s' : Int, s' = KBL.shiftN w sh (maskOf w t3) → Q .non (upd (upd (upd (upd H'' p (.ins C dx (putF "width" (.int w) []))) p (.ins C dx (putF "shift" (.int s') (putF "width" (.int w) [])))) p (.ins C dx (putF "keep" (.int ((KBL.keepN w sh (maskOf w t3) : Nat) : Int)) (putF "shift" (.int s') (putF "width" (.int w) []))))) p (.ins C dx (putF "flip" (.int f4) (putF "keep" (.int ((KBL.keepN w sh (maskOf w t3) : Nat) : Int)) (putF "shift" (.int s') (putF "width" (.int w) [])))))) := by
      intro s' e
      subst e
      have nm2 : Nm w (KBL.shiftN w sh (maskOf w t3)) (KBL.keepN w sh (maskOf w t3)) f4 := by
        refine ⟨w3, ?_, ?_, nm.kl, fl⟩
        · unfold KBL.shiftN; split <;> omega
        · unfold KBL.shiftN; split <;> omega
      refine q _ ⟨nm2, dx, upd_same⟩ fun b o e hb => ?_
      rw [upd_ne hb, upd_ne hb, upd_ne hb, upd_ne hb]
      exact e
    refine r_ite2 (fun h => ?_) (fun h => ?_)
    · have h' : KBL.keepN w sh (maskOf w t3) = 0 := by have := V.int.inj h; omega
      walk_at "rd"
      refine ⟨p, C, dx, _, rfl, upd_same, T.cl, T.n_shift, putF_lt0 (by decide), ?_⟩
      walk_at "rd"
      refine ⟨p, C, dx, _, rfl, upd_same, T.cl, T.n_keep, putF_lt0 (putF_lt (by decide)), ?_⟩
      walk_at "rd"
      refine ⟨p, C, dx, _, rfl, upd_same, T.cl, T.n_flip, putF_lt0 (putF_lt (putF_lt (by decide))), ?_⟩
      exact fin 0 (by unfold KBL.shiftN; rw [if_pos h'])
    · have h' : ¬ KBL.keepN w sh (maskOf w t3) = 0 := fun z => h (by rw [z]; rfl)
      walk_at "rd"
      refine ⟨p, C, dx, _, rfl, upd_same, T.cl, T.n_shift, putF_lt0 (by decide), ?_⟩
      walk_at "rd"
      refine ⟨p, C, dx, _, rfl, upd_same, T.cl, T.n_keep, putF_lt0 (putF_lt (by decide)), ?_⟩
      walk_at "rd"
      refine ⟨p, C, dx, _, rfl, upd_same, T.cl, T.n_flip, putF_lt0 (putF_lt (putF_lt (by decide))), ?_⟩
      exact fin sh (by unfold KBL.shiftN; rw [if_neg h'])

theorem ok_bcall {f C aW cR : Addr} {fd : FuncData} (F : Fun K "__call__" "Blend.__call__" s_Blend___call__ f fd) (T : TxtB K mg C aW) (c_need_word : KB.Callee P w K mg base (L2.CX P w) 5 "need_word" ["width", "value"] (spNeed cR)) (c_shifted : KB.Callee P w K mg base CX0 2 "shifted" ["value", "width", "shift"] spSh) : FnOk P w K mg base (L2.CX P w) 6 f fd ["self", "value"] (spBCall C cR) := by
  refine F.okX sc_Blend___call__ (fun vs H Q E h => ?_) (fun cdv A outer s H vs Q E hr h => ?_)
  · obtain ⟨p, w, s, k, f, v, t, rfl, _⟩ := h
    rfl
  · obtain ⟨p, w, s, k, f, v, t, rfl, ⟨nm, dx, h1⟩, od, q, x⟩ := h
    refine ⟨_, (pss_cons (ps_expr (pe_callC c_need_word (hr.mono (by decide)) (by rfl) (passes_call KL.def_takes fun _ _ _ _ h => h) (pa_cons (pe_fld (pv 0) rfl) (pa_cons (pv 1) pa_nil))))
 (pss_one (ps_ret (pe_op op_xor (pe_fld (pv 0) rfl) (pe_op op_and (pe_fld (pv 0) rfl) (pe_callC c_shifted (hr.mono (by decide)) (by rfl) pass0 (pa_cons (pv 1) (pa_cons (pe_fld (pv 0) rfl) (pa_cons (pe_fld (pv 0) rfl) pa_nil))))))))), at_start (σ := [some (.ref p), some v]) rfl ?_⟩
    try dsimp only [KC.cx_KX]
    have cl := T.cl; have nw := T.n_width; have ns := T.n_shift; have nk := T.n_keep; have nf := T.n_flip
    walk_at "rd"
    refine ⟨w, v, t, rfl, nm.w3, od, fun y => ?_, fun y d H' sm hd => x y d H' sm hd⟩
    obtain ⟨n, hn, rfl⟩ := isWord_of y
    obtain rfl : v = .int n := od
    walk_at "rd"
    refine ⟨w, n, s, rfl, nm.w3, hn, nm.lo, nm.hi, ?_⟩
    walk_at "rd"
    rw [KBL.bAnd, KBL.bXor]
    exact q n hn rfl

theorem ok_brepr {f C aW : Addr} {fd : FuncData} {k : Nat} (F : Fun K "__repr__" "Blend.__repr__" s_Blend___repr__ f fd) (T : TxtB K mg C aW) : FnOk P w K mg base CX0 (k + 1) f fd ["self"] (spBRepr C) := by
  refine F.ok sc_Blend___repr__ (fun vs H Q E h => ?_) (fun cdv A outer s H vs Q E hr h => ?_)
  · obtain ⟨p, w, s, k, f, rfl, _⟩ := h
    rfl
  · obtain ⟨p, w, s, k, f, rfl, ⟨nm, dx, h1⟩, q⟩ := h
    have sl : 1000 ≤ sizeLine := by decide
    have wp := nm.w3.pow
    have wl := nm.w3.le
    obtain ⟨b1, b2, b3, b4⟩ := numBits nm
    refine ⟨_, (pss_one (ps_ret (pe_joined (.cons pe_str (.cons (pe_fmt (pe_fld (pv 0) rfl)) (.cons pe_str (.cons (pe_fmt (pe_fld (pv 0) rfl)) (.cons pe_str (.cons (pe_fmt (pe_fld (pv 0) rfl)) (.cons pe_str (.cons (pe_fmt (pe_fld (pv 0) rfl)) (.cons pe_str .nil)))))))))))), at_start (σ := [some (.ref p)]) rfl ?_⟩
    dsimp only [cx_K]
    have cl := T.cl; have nw := T.n_width; have ns := T.n_shift; have nk := T.n_keep; have nf := T.n_flip
    walk_at "rd"
    have c0 : Str.empty.length = 0 := rfl
    have c1 : (Str.ofString "Blend(").length = 6 := by decide +kernel
    have c2 : (Str.ofString ", ").length = 2 := by decide +kernel
    have c3 : (Str.ofString ")").length = 1 := by decide +kernel
    have d1 := KBL.num_len b1
    have d2 := KBL.num_len b2
    have d3 := KBL.num_len b3
    have d4 := KBL.num_len b4
    have sl2 : 10000 ≤ sizeLine := by decide
    refine ⟨(by simp only [Str.length_append]; omega), ?_⟩
    walk_at "rd"
    refine Or.inr ⟨_, rfl, b1, ?_⟩
    refine ⟨_, rfl, (by simp only [Str.length_append]; omega), ?_⟩
    walk_at "rd"
    refine ⟨(by simp only [Str.length_append]; omega), ?_⟩
    walk_at "rd"
    refine Or.inr ⟨_, rfl, b2, ?_⟩
    refine ⟨_, rfl, (by simp only [Str.length_append]; omega), ?_⟩
    walk_at "rd"
    refine ⟨(by simp only [Str.length_append]; omega), ?_⟩
    walk_at "rd"
    refine Or.inr ⟨_, rfl, b3, ?_⟩
    refine ⟨_, rfl, (by simp only [Str.length_append]; omega), ?_⟩
    walk_at "rd"
    refine ⟨(by simp only [Str.length_append]; omega), ?_⟩
    walk_at "rd"
    refine Or.inr ⟨_, rfl, b4, ?_⟩
    refine ⟨_, rfl, (by simp only [Str.length_append]; omega), ?_⟩
    walk_at "rd"
    refine ⟨(by simp only [Str.length_append]; omega), ?_⟩
    walk_at "rd"
    exact q

end
end K02


namespace K02
open PySem L2 KB KO KY KV KW
/-! ### operations on blends -/
def isStep (w : Nat) : Dt → Bool
  | .sc (.int i) => decide (0 ≤ i ∧ i ≤ w)
  | _ => false
theorem isStep_of {w : Nat} {t : Dt} (h : isStep w t = true) : ∃ n : Nat, n ≤ w ∧ t = .sc (.int n) := by
  cases t with
  | sc s => cases s with
    | int i =>
      have h' : 0 ≤ i ∧ i ≤ (w : Int) := of_decide_eq_true h
      exact ⟨i.toNat, by omega, by rw [show ((i.toNat : Nat) : Int) = i by omega]⟩
    | non => cases h
    | bl => cases h
    | str => cases h
  | tup => cases h
  | lst => cases h
  | dct => cases h
theorem noInt_noStep {t : Dt} (h : isIntD t = false) (w : Nat) : isStep w t = false := by
  cases t with
  | sc s => cases s with
    | int i => cases h
    | non => rfl
    | bl => rfl
    | str => rfl
  | tup => rfl
  | lst => rfl
  | dct => rfl
theorem isStep_nat {w n : Nat} (h : n ≤ w) : isStep w (.sc (.int n)) = true := decide_eq_true ⟨by omega, by omega⟩
def spStepN (cS : Addr) : Sp := fun vs H Q E => ∃ (w : Nat) (v : V) (t : Dt), vs = [.int w, v] ∧ OdAt H v t ∧ (isStep w t = true → Q .non H) ∧ (isStep w t = false → ∀ d H', Same H H' → H' d = some (.xd [("value", v)]) → E (.ref cS) (some d) H')
/-- the shift behind a move -/
def movS (w : Nat) (s s' : Int) (k : Nat) : Int := if KBL.shN w k s' = 0 then 0 else s + s'
/-- the move is within the width -/
def MovOk (w : Nat) (s s' : Int) (k : Nat) : Prop := 0 - (w : Int) ≤ s' ∧ s' ≤ w ∧ (KBL.shN w k s' ≠ 0 → 0 - (w : Int) ≤ s + s' ∧ s + s' ≤ w)
def MadeAt (C : Addr) (H : Hp) (p : Addr) (w : Nat) (s : Int) (m f : Nat) : Prop := BlendAt C H p w (KBL.shiftN w s m) (KBL.keepN w s m) f
def spMoved (C : Addr) : Sp := fun vs H Q _ => ∃ (p : Addr) (w : Nat) (s s' : Int) (k f : Nat), vs = [.ref p, .int s'] ∧ BlendAt C H p w s k f ∧ MovOk w s s' k ∧ ∀ H' x, MadeAt C H' x w (movS w s s' k) (KBL.shN w k s') (KBL.shN w f s') → Same H H' → Q (.ref x) H'
def spShl (C cS : Addr) : Sp := fun vs H Q E => ∃ (p : Addr) (w : Nat) (s : Int) (k f : Nat) (v : V) (t : Dt), vs = [.ref p, v] ∧ BlendAt C H p w s k f ∧ OdAt H v t ∧
  (∀ n : Nat, n ≤ w → t = .sc (.int n) → MovOk w s n k ∧ ∀ H' x, MadeAt C H' x w (movS w s n k) (KBL.shN w k n) (KBL.shN w f n) → Same H H' → Q (.ref x) H') ∧ (isStep w t = false → ∀ d H', Same H H' → H' d = some (.xd [("value", v)]) → E (.ref cS) (some d) H')
def spShr (C cS : Addr) : Sp := fun vs H Q E => ∃ (p : Addr) (w : Nat) (s : Int) (k f : Nat) (v : V) (t : Dt), vs = [.ref p, v] ∧ BlendAt C H p w s k f ∧ OdAt H v t ∧
  (∀ n : Nat, n ≤ w → t = .sc (.int n) → MovOk w s (0 - n) k ∧ ∀ H' x, MadeAt C H' x w (movS w s (0 - n) k) (KBL.shN w k (0 - n)) (KBL.shN w f (0 - n)) → Same H H' → Q (.ref x) H') ∧ (isStep w t = false → ∀ d H', Same H H' → H' d = some (.xd [("value", v)]) → E (.ref cS) (some d) H')
def spAndB (C cR : Addr) : Sp := fun vs H Q E => ∃ (p : Addr) (w : Nat) (s : Int) (k f : Nat) (v : V) (t : Dt), vs = [.ref p, v] ∧ BlendAt C H p w s k f ∧ OdAt H v t ∧
  (∀ n : Nat, n < 2 ^ w → t = .sc (.int n) → ∀ H' x, MadeAt C H' x w s (k &&& n) (f &&& n) → Same H H' → Q (.ref x) H') ∧ (isWord w t = false → ∀ d H', Same H H' → H' d = some (.xd [("value", v)]) → E (.ref cR) (some d) H')
theorem make_b {C cW cS cR : Addr} {H : Hp} {w : Nat} {s : Int} {m f : Nat} {Q : Hp → Prop} {E : XK} {x dx : Addr} (nx : H x = none) (ndx : H dx = none) (nm : Nm w s m f) (q : ∀ H', BlendAt C H' x w (KBL.shiftN w s m) (KBL.keepN w s m) f → Same H H' → Q H') :
    spBlend C cW cS cR [.ref x, .int w, .int s, .int m, .int f] (upd (upd H dx (.own x)) x (.ins C dx [])) (fun v H3 => v = .non ∧ Q H3) E := by
  have sh : isShift w (.sc (.int s)) = true := decide_eq_true ⟨nm.lo, nm.hi⟩
  refine ⟨x, dx, _, _, _, _, .sc (.int w), .sc (.int s), .sc (.int m), .sc (.int f), rfl, upd_same, rfl, rfl, rfl, rfl, fun z => ?_, fun w' e w3 z => ?_, fun w' e w3 _ _ z => ?_, fun w' e w3 _ _ z => ?_, fun w' s' f' e1 e2 e4 _ nm' H' B kp => ⟨rfl, ?_⟩⟩
  · rw [isW_nat nm.w3] at z; cases z
  · cases e; rw [sh] at z; cases z
  · obtain rfl : w = w' := by cases e; rfl
    rw [isWord_nat nm.kl] at z; cases z
  · obtain rfl : w = w' := by cases e; rfl
    rw [isWord_nat nm.fl] at z; cases z
  · obtain rfl : w = w' := by cases e1; rfl
    obtain rfl : s = s' := by cases e2; rfl
    obtain rfl : f = f' := by cases e4; rfl
    exact q H' B fun b o e => kp b o (by rw [upd_ne (ne_of_none e nx), upd_ne (ne_of_none e ndx)]; exact e) (ne_of_none e nx)
theorem make_d {C cW cS cR : Addr} {H : Hp} {w : Nat} {Q : Hp → Prop} {E : XK} {x dx : Addr} (nx : H x = none) (ndx : H dx = none) (w3 : W3 w) (q : ∀ H', BlendAt C H' x w (KBL.shiftN w 0 (KBL.onesN w)) (KBL.keepN w 0 (KBL.onesN w)) 0 → Same H H' → Q H') :
    spBlend C cW cS cR [.ref x, .int w, .int 0, .non, .int 0] (upd (upd H dx (.own x)) x (.ins C dx [])) (fun v H3 => v = .non ∧ Q H3) E := by
  have wl := w3.le
  have sh : isShift w (.sc (.int 0)) = true := decide_eq_true ⟨by omega, by omega⟩
  refine ⟨x, dx, _, _, _, _, .sc (.int w), .sc (.int 0), .sc .non, .sc (.int 0), rfl, upd_same, rfl, rfl, rfl, rfl, fun z => ?_, fun w' e w3 z => ?_, fun w' e w3 _ z => ?_, fun w' e w3 _ _ z => ?_, fun w' s' f' e1 e2 e4 _ nm' H' B kp => ⟨rfl, ?_⟩⟩
  · rw [isW_nat w3] at z; cases z
  · cases e; rw [sh] at z; cases z
  · cases z
  · rw [show (Dt.sc (.int 0)) = .sc (.int ((0 : Nat) : Int)) from rfl, isWord_nat (Nat.two_pow_pos w')] at z; cases z
  · obtain rfl : w = w' := by cases e1; rfl
    obtain rfl : s' = 0 := by cases e2; rfl
    obtain rfl : f' = 0 := by cases e4; rfl
    exact q H' B fun b o e => kp b o (by rw [upd_ne (ne_of_none e nx), upd_ne (ne_of_none e ndx)]; exact e) (ne_of_none e nx)


section
variable {P : Program} {w : World} {K : PySem.W.Frag} {mg : Str → Option Value} {base : Heap}
theorem ok_step {f cS : Addr} {fd : FuncData} (F : Fun K "need_step" "need_step" s_need_step f fd) (e_InvalidShift : KX.ErrMk P w K mg base cS "InvalidShift" "value") (c_is_integer : KB.Callee P w K mg base CX0 1 "is_integer" ["value"] spInt) : FnOk P w K mg base (L2.CX P w) 3 f fd ["width", "step"] (spStepN cS) := by
  refine F.okX sc_need_step (fun vs H Q E h => ?_) (fun cdv A outer s H vs Q E hr h => ?_)
  · obtain ⟨w, v, t, rfl, _⟩ := h
    rfl
  · obtain ⟨w, v, t, rfl, od, q, x⟩ := h
    refine ⟨_, (pss_one (ps_if (PW.pt (pw_or (pt_not (pt_val (pe_callC c_is_integer (hr.mono (by decide)) (by rfl) pass0 (pa_cons (pv 1) pa_nil)))) (pw_or1 (pt_not (pt_chain op_le op_le pe_int (pv 1) (pv 0)))))) (pss_one (ps_raise rfl KL.def_takes (KX.pmkC e_InvalidShift (hr.mono (by decide)) (by rfl) (pa_cons (pv 1) pa_nil))))
 pss_nil)), at_start (σ := [some (.int w), some v]) rfl ?_⟩
    try dsimp only [KC.cx_KX]
    walk_at "rd"
    refine ⟨v, t, rfl, od, ?_⟩
    walk_at "rd"
    refine r_iteBN (fun z => ?_) (fun z => ?_)
    · walk_at "rd"
      refine KX.r_raiseO ?_ KX.mono_var
      walk_at "rd"
      exact fun d H' sm hd => x (noInt_noStep z w) d H' sm hd
    obtain ⟨i, rfl⟩ := isIntD_of z
    obtain rfl : v = .int i := od
    have bad : ¬ (0 ≤ i ∧ i ≤ (w : Int)) → ∀ (d : Addr) (H' : Hp), Same H H' → H' d = some (.xd [("value", .int i)]) → E (.ref cS) (some d) H' := fun y => x (decide_eq_false y)
    walk_at "rd"
    refine KC.r_chain ?_
    walk_at "rd"
    refine r_ite2 (fun lo => ?_) (fun lo => ?_)
    rotate_left
    · walk_at "rd"
      refine KX.r_raiseO ?_ KX.mono_var
      walk_at "rd"
      exact bad fun y => lo y.1
    walk_at "rd"
    refine r_iteN2 (fun hi => ?_) (fun hi => ?_)
    · walk_at "rd"
      refine KX.r_raiseO ?_ KX.mono_var
      walk_at "rd"
      exact bad fun y => hi y.2
    walk_at "rd"
    exact q (decide_eq_true ⟨lo, hi⟩)
theorem ok_moved {f C aW cW cS cR : Addr} {fd : FuncData} (F : Fun K "moved" "moved" s_moved f fd) (T : TxtB K mg C aW) (c_shifted : KB.Callee P w K mg base CX0 2 "shifted" ["value", "width", "shift"] spSh) (c_Blend___init__ : CalleeI P w K mg base (L2.CX P w) 6 C "Blend" ["self", "width", "shift", "keep", "flip"] (spBlend C cW cS cR)) : FnOk P w K mg base CX0 8 f fd ["blend", "step"] (spMoved C) := by
  refine F.ok sc_moved (fun vs H Q E h => ?_) (fun cdv A outer s H vs Q E hr h => ?_)
  · obtain ⟨p, w, s, s', k, f, rfl, _⟩ := h
    rfl
  · obtain ⟨p, w, s, s', k, f, rfl, ⟨nm, dx, h1⟩, ⟨m1, m2, m3⟩, q⟩ := h
    refine ⟨_, (pss_cons (ps_set (i := 2) sc_moved.nd rfl (by first | exact Or.inl rfl | exact Or.inr rfl) (pe_callC c_shifted (hr.mono (by decide)) (by rfl) pass0 (pa_cons (pe_fld (pv 0) rfl) (pa_cons (pe_fld (pv 0) rfl) (pa_cons (pv 1) pa_nil)))))
 (pss_cons (ps_set (i := 3) sc_moved.nd rfl (by first | exact Or.inl rfl | exact Or.inr rfl) (pe_callC c_shifted (hr.mono (by decide)) (by rfl) pass0 (pa_cons (pe_fld (pv 0) rfl) (pa_cons (pe_fld (pv 0) rfl) (pa_cons (pv 1) pa_nil)))))
 (pss_one (ps_ret (pe_makeC c_Blend___init__ (hr.mono (by decide)) (by rfl) passL (pa_cons (pe_fld (pv 0) rfl) (pa_cons (pe_ifExp (pt_cmpR op_ne (pv 2) pe_int (nomark _)) (pe_op op_add (pe_fld (pv 0) rfl) (pv 1)) pe_int) (pa_cons (pv 2) (pa_cons (pv 3) pa_nil))))))))), at_start (σ := [some (.ref p), some (.int s'), none, none]) rfl ?_⟩
    try dsimp only [cx_K]
    have cl := T.cl; have nw := T.n_width; have ns := T.n_shift; have nk := T.n_keep; have nf := T.n_flip
    have k1 := KBL.sh_lt (s := s') nm.kl
    have f1 := KBL.sh_lt (s := s') nm.fl
    walk_at "rd"
    refine ⟨w, k, s', rfl, nm.w3, nm.kl, m1, m2, ?_⟩
    walk_at "rd"
    refine ⟨w, f, s', rfl, nm.w3, nm.fl, m1, m2, ?_⟩
    walk_at "rd"
    unfold movS at q
    refine r_iteN2 (fun h => ?_) (fun h => ?_)
    · have h' : ¬ KBL.shN w k s' = 0 := fun z => h (by rw [z]; rfl)
      rw [if_neg h'] at q
      walk_at "rd"
      refine fun x dx nx ndx nxd => make_b nx ndx ⟨nm.w3, (m3 h').1, (m3 h').2, k1, f1⟩ fun H' B sm => ?_
      exact q H' x B sm
    · have h' : KBL.shN w k s' = 0 := by have := V.int.inj h; omega
      rw [if_pos h'] at q
      walk_at "rd"
      refine fun x dx nx ndx nxd => make_b nx ndx ⟨nm.w3, by omega, by omega, k1, f1⟩ fun H' B sm => ?_
      exact q H' x B sm
theorem ok_shl {f C aW cS : Addr} {fd : FuncData} (F : Fun K "__lshift__" "Blend.__lshift__" s_Blend___lshift__ f fd) (T : TxtB K mg C aW) (c_need_step : KB.Callee P w K mg base (L2.CX P w) 3 "need_step" ["width", "step"] (spStepN cS)) (c_moved : KB.Callee P w K mg base CX0 8 "moved" ["blend", "step"] (spMoved C)) : FnOk P w K mg base (L2.CX P w) 9 f fd ["self", "other"] (spShl C cS) := by
  refine F.okX sc_Blend___lshift__ (fun vs H Q E h => ?_) (fun cdv A outer s H vs Q E hr h => ?_)
  · obtain ⟨p, w, s, k, f, v, t, rfl, _⟩ := h
    rfl
  · obtain ⟨p, w, s, k, f, v, t, rfl, B, od, q, x⟩ := h
    obtain ⟨nm, dx, h1⟩ := id B
    refine ⟨_, (pss_cons (ps_expr (pe_callC c_need_step (hr.mono (by decide)) (by rfl) (passes_call KL.def_takes fun _ _ _ _ h => h) (pa_cons (pe_fld (pv 0) rfl) (pa_cons (pv 1) pa_nil))))
 (pss_one (ps_ret (pe_callC c_moved (hr.mono (by decide)) (by rfl) pass0 (pa_cons (pv 0) (pa_cons (pv 1) pa_nil)))))), at_start (σ := [some (.ref p), some v]) rfl ?_⟩
    try dsimp only [KC.cx_KX]
    have cl := T.cl; have nw := T.n_width
    walk_at "rd"
    refine ⟨w, v, t, rfl, od, fun y => ?_, fun y d H' sm hd => x y d H' sm hd⟩
    obtain ⟨n, hn, rfl⟩ := isStep_of y
    obtain rfl : v = .int n := od
    obtain ⟨q1, q2⟩ := q n hn rfl
    walk_at "rd"
    exact ⟨p, w, s, n, k, f, rfl, B, q1, q2⟩
theorem ok_shr {f C aW cS : Addr} {fd : FuncData} (F : Fun K "__rshift__" "Blend.__rshift__" s_Blend___rshift__ f fd) (T : TxtB K mg C aW) (c_need_step : KB.Callee P w K mg base (L2.CX P w) 3 "need_step" ["width", "step"] (spStepN cS)) (c_moved : KB.Callee P w K mg base CX0 8 "moved" ["blend", "step"] (spMoved C)) : FnOk P w K mg base (L2.CX P w) 9 f fd ["self", "other"] (spShr C cS) := by
  refine F.okX sc_Blend___rshift__ (fun vs H Q E h => ?_) (fun cdv A outer s H vs Q E hr h => ?_)
  · obtain ⟨p, w, s, k, f, v, t, rfl, _⟩ := h
    rfl
  · obtain ⟨p, w, s, k, f, v, t, rfl, B, od, q, x⟩ := h
    obtain ⟨nm, dx, h1⟩ := id B
    refine ⟨_, (pss_cons (ps_expr (pe_callC c_need_step (hr.mono (by decide)) (by rfl) (passes_call KL.def_takes fun _ _ _ _ h => h) (pa_cons (pe_fld (pv 0) rfl) (pa_cons (pv 1) pa_nil))))
 (pss_one (ps_ret (pe_callC c_moved (hr.mono (by decide)) (by rfl) pass0 (pa_cons (pv 0) (pa_cons (pe_op op_sub pe_int (pv 1)) pa_nil)))))), at_start (σ := [some (.ref p), some v]) rfl ?_⟩
    try dsimp only [KC.cx_KX]
    have cl := T.cl; have nw := T.n_width
    walk_at "rd"
    refine ⟨w, v, t, rfl, od, fun y => ?_, fun y d H' sm hd => x y d H' sm hd⟩
    obtain ⟨n, hn, rfl⟩ := isStep_of y
    obtain rfl : v = .int n := od
    obtain ⟨q1, q2⟩ := q n hn rfl
    walk_at "rd"
    exact ⟨p, w, s, 0 - (n : Int), k, f, rfl, B, q1, q2⟩
theorem ok_andB {f C aW cW cS cR : Addr} {fd : FuncData} (F : Fun K "__and__" "Blend.__and__" s_Blend___and__ f fd) (T : TxtB K mg C aW) (c_need_word : KB.Callee P w K mg base (L2.CX P w) 5 "need_word" ["width", "value"] (spNeed cR)) (c_Blend___init__ : CalleeI P w K mg base (L2.CX P w) 6 C "Blend" ["self", "width", "shift", "keep", "flip"] (spBlend C cW cS cR)) : FnOk P w K mg base (L2.CX P w) 8 f fd ["self", "other"] (spAndB C cR) := by
  refine F.okX sc_Blend___and__ (fun vs H Q E h => ?_) (fun cdv A outer s H vs Q E hr h => ?_)
  · obtain ⟨p, w, s, k, f, v, t, rfl, _⟩ := h
    rfl
  · obtain ⟨p, w, s, k, f, v, t, rfl, B, od, q, x⟩ := h
    obtain ⟨nm, dx, h1⟩ := id B
    refine ⟨_, (pss_cons (ps_expr (pe_callC c_need_word (hr.mono (by decide)) (by rfl) (passes_call KL.def_takes fun _ _ _ _ h => h) (pa_cons (pe_fld (pv 0) rfl) (pa_cons (pv 1) pa_nil))))
 (pss_one (ps_ret (pe_makeC c_Blend___init__ (hr.mono (by decide)) (by rfl) (passes_call KL.def_takes fun _ _ _ _ h => h) (pa_cons (pe_fld (pv 0) rfl) (pa_cons (pe_fld (pv 0) rfl) (pa_cons (pe_op op_and (pe_fld (pv 0) rfl) (pv 1)) (pa_cons (pe_op op_and (pe_fld (pv 0) rfl) (pv 1)) pa_nil)))))))), at_start (σ := [some (.ref p), some v]) rfl ?_⟩
    try dsimp only [KC.cx_KX]
    have cl := T.cl; have nw := T.n_width; have ns := T.n_shift; have nk := T.n_keep; have nf := T.n_flip
    walk_at "rd"
    refine ⟨w, v, t, rfl, nm.w3, od, fun y => ?_, fun y d H' sm hd => x y d H' sm hd⟩
    obtain ⟨n, hn, rfl⟩ := isWord_of y
    obtain rfl : v = .int n := od
    walk_at "rd"
    rw [KBL.bAnd, KBL.bAnd]
    refine fun x dx nx ndx nxd => make_b nx ndx ⟨nm.w3, nm.lo, nm.hi, Nat.and_lt_two_pow _ hn, Nat.and_lt_two_pow _ hn⟩ fun H' B' sm => ?_
    exact q n hn rfl H' x B' sm

end
end K02


namespace K02
open PySem L2 KB KO KY KV KW
/-! ### &, |, ^ on either side; a constant blend -/
def kAnd (_ k n : Nat) : Nat := k &&& n
def fAnd (_ f n : Nat) : Nat := f &&& n
def kOr (w k n : Nat) : Nat := k &&& (KBL.onesN w ^^^ n)
def fOr (_ f n : Nat) : Nat := f ||| n
def kXor (_ k _ : Nat) : Nat := k
def fXor (_ f n : Nat) : Nat := f ^^^ n
def spBin (C cR : Addr) (gk gf : Nat → Nat → Nat → Nat) : Sp := fun vs H Q E => ∃ (p : Addr) (w : Nat) (s : Int) (k f : Nat) (v : V) (t : Dt), vs = [.ref p, v] ∧ BlendAt C H p w s k f ∧ OdAt H v t ∧
  (∀ n : Nat, n < 2 ^ w → t = .sc (.int n) → ∀ H' x, MadeAt C H' x w s (gk w k n) (gf w f n) → Same H H' → Q (.ref x) H') ∧ (isWord w t = false → ∀ d H', Same H H' → H' d = some (.xd [("value", v)]) → E (.ref cR) (some d) H')
def spConst (C cW cR : Addr) : Sp := fun vs H Q E => ∃ (v1 v2 : V) (t1 t2 : Dt), vs = [.ref C, v1, v2] ∧ OdAt H v1 t1 ∧ OdAt H v2 t2 ∧ (isW t1 = false → ∀ d H', Same H H' → H' d = some (.xd [("value", v1)]) → E (.ref cW) (some d) H') ∧
  (∀ w : Nat, t1 = .sc (.int w) → W3 w → isWord w t2 = false → ∀ d H', Same H H' → H' d = some (.xd [("value", v2)]) → E (.ref cR) (some d) H') ∧
  (∀ w n : Nat, t1 = .sc (.int w) → t2 = .sc (.int n) → W3 w → n < 2 ^ w → ∀ H' x, MadeAt C H' x w 0 0 n → Same H H' → Q (.ref x) H')
theorem or_and_add (a : Nat) : ∀ b : Nat, (a ||| b) + (a &&& b) = a + b := by
  induction a using Nat.strongRecOn with
  | _ a ih =>
    intro b
    by_cases h : a = 0
    · subst h; simp
    · have e := ih (a / 2) (by omega) (b / 2)
      have x1 := Nat.or_mod_two_pow (a := a) (b := b) (n := 1)
      have x2 := Nat.and_mod_two_pow (a := a) (b := b) (n := 1)
      have x3 := Nat.or_div_two_pow (a := a) (b := b) (n := 1)
      have x4 := Nat.and_div_two_pow (a := a) (b := b) (n := 1)
      simp only [Nat.pow_one] at x1 x2 x3 x4
      have da := Nat.div_add_mod a 2
      have db := Nat.div_add_mod b 2
      have dx := Nat.div_add_mod (a ||| b) 2
      have dy := Nat.div_add_mod (a &&& b) 2
      rw [x1, x3] at dx
      rw [x2, x4] at dy
      rcases Nat.mod_two_eq_zero_or_one a with ha | ha <;> rcases Nat.mod_two_eq_zero_or_one b with hb | hb <;> rw [ha, hb] at dx dy <;> rw [ha] at da <;> rw [hb] at db <;> simp at dx dy <;> omega
theorem bOrN (a b : Nat) : Builtin.bitOr (a : Int) (b : Int) = ((a ||| b : Nat) : Int) := by
  rw [PyProof.Rows.bitOr_and, KBL.bAnd]
  have := or_and_add a b
  omega


section
variable {P : Program} {w : World} {K : PySem.W.Frag} {mg : Str → Option Value} {base : Heap}
theorem ok_or {f C aW cW cS cR : Addr} {fd : FuncData} (F : Fun K "__or__" "Blend.__or__" s_Blend___or__ f fd) (T : TxtB K mg C aW) (c_need_word : KB.Callee P w K mg base (L2.CX P w) 5 "need_word" ["width", "value"] (spNeed cR)) (c_ones : KB.Callee P w K mg base CX0 1 "ones" ["width"] spOnes) (c_Blend___init__ : CalleeI P w K mg base (L2.CX P w) 6 C "Blend" ["self", "width", "shift", "keep", "flip"] (spBlend C cW cS cR)) : FnOk P w K mg base (L2.CX P w) 8 f fd ["self", "other"] (spBin C cR kOr fOr) := by
  refine F.okX sc_Blend___or__ (fun vs H Q E h => ?_) (fun cdv A outer s H vs Q E hr h => ?_)
  · obtain ⟨p, w, s, k, f, v, t, rfl, _⟩ := h
    rfl
  · obtain ⟨p, w, s, k, f, v, t, rfl, B, od, q, x⟩ := h
    obtain ⟨nm, dx, h1⟩ := id B
    refine ⟨_, (pss_cons (ps_expr (pe_callC c_need_word (hr.mono (by decide)) (by rfl) (passes_call KL.def_takes fun _ _ _ _ h => h) (pa_cons (pe_fld (pv 0) rfl) (pa_cons (pv 1) pa_nil))))
 (pss_one (ps_ret (pe_makeC c_Blend___init__ (hr.mono (by decide)) (by rfl) (passes_call KL.def_takes fun _ _ _ _ h => h) (pa_cons (pe_fld (pv 0) rfl) (pa_cons (pe_fld (pv 0) rfl) (pa_cons (pe_op op_and (pe_fld (pv 0) rfl) (pe_op op_xor (pe_callC c_ones (hr.mono (by decide)) (by rfl) pass0 (pa_cons (pe_fld (pv 0) rfl) pa_nil)) (pv 1))) (pa_cons (pe_op op_or (pe_fld (pv 0) rfl) (pv 1)) pa_nil)))))))), at_start (σ := [some (.ref p), some v]) rfl ?_⟩
    try dsimp only [KC.cx_KX]
    have cl := T.cl; have nw := T.n_width; have ns := T.n_shift; have nk := T.n_keep; have nf := T.n_flip
    have wl := nm.w3.le
    walk_at "rd"
    refine ⟨w, v, t, rfl, nm.w3, od, fun y => ?_, fun y d H' sm hd => x y d H' sm hd⟩
    obtain ⟨n, hn, rfl⟩ := isWord_of y
    obtain rfl : v = .int n := od
    walk_at "rd"
    refine ⟨w, rfl, wl.2, ?_⟩
    walk_at "rd"
    rw [KBL.bXor, KBL.bAnd, bOrN]
    refine fun x dx nx ndx nxd => make_b nx ndx ⟨nm.w3, nm.lo, nm.hi, Nat.and_lt_two_pow _ (Nat.xor_lt_two_pow (KBL.ones_lt w) hn), Nat.or_lt_two_pow nm.fl hn⟩ fun H' B' sm => ?_
    exact q n hn rfl H' x B' sm
theorem ok_xor {f C aW cW cS cR : Addr} {fd : FuncData} (F : Fun K "__xor__" "Blend.__xor__" s_Blend___xor__ f fd) (T : TxtB K mg C aW) (c_need_word : KB.Callee P w K mg base (L2.CX P w) 5 "need_word" ["width", "value"] (spNeed cR)) (c_Blend___init__ : CalleeI P w K mg base (L2.CX P w) 6 C "Blend" ["self", "width", "shift", "keep", "flip"] (spBlend C cW cS cR)) : FnOk P w K mg base (L2.CX P w) 8 f fd ["self", "other"] (spBin C cR kXor fXor) := by
  refine F.okX sc_Blend___xor__ (fun vs H Q E h => ?_) (fun cdv A outer s H vs Q E hr h => ?_)
  · obtain ⟨p, w, s, k, f, v, t, rfl, _⟩ := h
    rfl
  · obtain ⟨p, w, s, k, f, v, t, rfl, B, od, q, x⟩ := h
    obtain ⟨nm, dx, h1⟩ := id B
    refine ⟨_, (pss_cons (ps_expr (pe_callC c_need_word (hr.mono (by decide)) (by rfl) (passes_call KL.def_takes fun _ _ _ _ h => h) (pa_cons (pe_fld (pv 0) rfl) (pa_cons (pv 1) pa_nil))))
 (pss_one (ps_ret (pe_makeC c_Blend___init__ (hr.mono (by decide)) (by rfl) (passes_call KL.def_takes fun _ _ _ _ h => h) (pa_cons (pe_fld (pv 0) rfl) (pa_cons (pe_fld (pv 0) rfl) (pa_cons (pe_fld (pv 0) rfl) (pa_cons (pe_op op_xor (pe_fld (pv 0) rfl) (pv 1)) pa_nil)))))))), at_start (σ := [some (.ref p), some v]) rfl ?_⟩
    try dsimp only [KC.cx_KX]
    have cl := T.cl; have nw := T.n_width; have ns := T.n_shift; have nk := T.n_keep; have nf := T.n_flip
    have wl := nm.w3.le
    walk_at "rd"
    refine ⟨w, v, t, rfl, nm.w3, od, fun y => ?_, fun y d H' sm hd => x y d H' sm hd⟩
    obtain ⟨n, hn, rfl⟩ := isWord_of y
    obtain rfl : v = .int n := od
    walk_at "rd"
    rw [KBL.bXor]
    refine fun x dx nx ndx nxd => make_b nx ndx ⟨nm.w3, nm.lo, nm.hi, nm.kl, Nat.xor_lt_two_pow nm.fl hn⟩ fun H' B' sm => ?_
    exact q n hn rfl H' x B' sm
theorem ok_rand {f C aW cW cS cR : Addr} {fd : FuncData} (F : Fun K "__rand__" "Blend.__rand__" s_Blend___rand__ f fd) (T : TxtB K mg C aW) (c_need_word : KB.Callee P w K mg base (L2.CX P w) 5 "need_word" ["width", "value"] (spNeed cR)) (c_Blend___init__ : CalleeI P w K mg base (L2.CX P w) 6 C "Blend" ["self", "width", "shift", "keep", "flip"] (spBlend C cW cS cR)) : FnOk P w K mg base (L2.CX P w) 8 f fd ["self", "other"] (spBin C cR kAnd fAnd) := by
  refine F.okX sc_Blend___rand__ (fun vs H Q E h => ?_) (fun cdv A outer s H vs Q E hr h => ?_)
  · obtain ⟨p, w, s, k, f, v, t, rfl, _⟩ := h
    rfl
  · obtain ⟨p, w, s, k, f, v, t, rfl, B, od, q, x⟩ := h
    obtain ⟨nm, dx, h1⟩ := id B
    refine ⟨_, (pss_cons (ps_expr (pe_callC c_need_word (hr.mono (by decide)) (by rfl) (passes_call KL.def_takes fun _ _ _ _ h => h) (pa_cons (pe_fld (pv 0) rfl) (pa_cons (pv 1) pa_nil))))
 (pss_one (ps_ret (pe_makeC c_Blend___init__ (hr.mono (by decide)) (by rfl) (passes_call KL.def_takes fun _ _ _ _ h => h) (pa_cons (pe_fld (pv 0) rfl) (pa_cons (pe_fld (pv 0) rfl) (pa_cons (pe_op op_and (pe_fld (pv 0) rfl) (pv 1)) (pa_cons (pe_op op_and (pe_fld (pv 0) rfl) (pv 1)) pa_nil)))))))), at_start (σ := [some (.ref p), some v]) rfl ?_⟩
    try dsimp only [KC.cx_KX]
    have cl := T.cl; have nw := T.n_width; have ns := T.n_shift; have nk := T.n_keep; have nf := T.n_flip
    have wl := nm.w3.le
    walk_at "rd"
    refine ⟨w, v, t, rfl, nm.w3, od, fun y => ?_, fun y d H' sm hd => x y d H' sm hd⟩
    obtain ⟨n, hn, rfl⟩ := isWord_of y
    obtain rfl : v = .int n := od
    walk_at "rd"
    rw [KBL.bAnd, KBL.bAnd]
    refine fun x dx nx ndx nxd => make_b nx ndx ⟨nm.w3, nm.lo, nm.hi, Nat.and_lt_two_pow _ hn, Nat.and_lt_two_pow _ hn⟩ fun H' B' sm => ?_
    exact q n hn rfl H' x B' sm
theorem ok_ror {f C aW cW cS cR : Addr} {fd : FuncData} (F : Fun K "__ror__" "Blend.__ror__" s_Blend___ror__ f fd) (T : TxtB K mg C aW) (c_need_word : KB.Callee P w K mg base (L2.CX P w) 5 "need_word" ["width", "value"] (spNeed cR)) (c_ones : KB.Callee P w K mg base CX0 1 "ones" ["width"] spOnes) (c_Blend___init__ : CalleeI P w K mg base (L2.CX P w) 6 C "Blend" ["self", "width", "shift", "keep", "flip"] (spBlend C cW cS cR)) : FnOk P w K mg base (L2.CX P w) 8 f fd ["self", "other"] (spBin C cR kOr fOr) := by
  refine F.okX sc_Blend___ror__ (fun vs H Q E h => ?_) (fun cdv A outer s H vs Q E hr h => ?_)
  · obtain ⟨p, w, s, k, f, v, t, rfl, _⟩ := h
    rfl
  · obtain ⟨p, w, s, k, f, v, t, rfl, B, od, q, x⟩ := h
    obtain ⟨nm, dx, h1⟩ := id B
    refine ⟨_, (pss_cons (ps_expr (pe_callC c_need_word (hr.mono (by decide)) (by rfl) (passes_call KL.def_takes fun _ _ _ _ h => h) (pa_cons (pe_fld (pv 0) rfl) (pa_cons (pv 1) pa_nil))))
 (pss_one (ps_ret (pe_makeC c_Blend___init__ (hr.mono (by decide)) (by rfl) (passes_call KL.def_takes fun _ _ _ _ h => h) (pa_cons (pe_fld (pv 0) rfl) (pa_cons (pe_fld (pv 0) rfl) (pa_cons (pe_op op_and (pe_fld (pv 0) rfl) (pe_op op_xor (pe_callC c_ones (hr.mono (by decide)) (by rfl) pass0 (pa_cons (pe_fld (pv 0) rfl) pa_nil)) (pv 1))) (pa_cons (pe_op op_or (pe_fld (pv 0) rfl) (pv 1)) pa_nil)))))))), at_start (σ := [some (.ref p), some v]) rfl ?_⟩
    try dsimp only [KC.cx_KX]
    have cl := T.cl; have nw := T.n_width; have ns := T.n_shift; have nk := T.n_keep; have nf := T.n_flip
    have wl := nm.w3.le
    walk_at "rd"
    refine ⟨w, v, t, rfl, nm.w3, od, fun y => ?_, fun y d H' sm hd => x y d H' sm hd⟩
    obtain ⟨n, hn, rfl⟩ := isWord_of y
    obtain rfl : v = .int n := od
    walk_at "rd"
    refine ⟨w, rfl, wl.2, ?_⟩
    walk_at "rd"
    rw [KBL.bXor, KBL.bAnd, bOrN]
    refine fun x dx nx ndx nxd => make_b nx ndx ⟨nm.w3, nm.lo, nm.hi, Nat.and_lt_two_pow _ (Nat.xor_lt_two_pow (KBL.ones_lt w) hn), Nat.or_lt_two_pow nm.fl hn⟩ fun H' B' sm => ?_
    exact q n hn rfl H' x B' sm
theorem ok_rxor {f C aW cW cS cR : Addr} {fd : FuncData} (F : Fun K "__rxor__" "Blend.__rxor__" s_Blend___rxor__ f fd) (T : TxtB K mg C aW) (c_need_word : KB.Callee P w K mg base (L2.CX P w) 5 "need_word" ["width", "value"] (spNeed cR)) (c_Blend___init__ : CalleeI P w K mg base (L2.CX P w) 6 C "Blend" ["self", "width", "shift", "keep", "flip"] (spBlend C cW cS cR)) : FnOk P w K mg base (L2.CX P w) 8 f fd ["self", "other"] (spBin C cR kXor fXor) := by
  refine F.okX sc_Blend___rxor__ (fun vs H Q E h => ?_) (fun cdv A outer s H vs Q E hr h => ?_)
  · obtain ⟨p, w, s, k, f, v, t, rfl, _⟩ := h
    rfl
  · obtain ⟨p, w, s, k, f, v, t, rfl, B, od, q, x⟩ := h
    obtain ⟨nm, dx, h1⟩ := id B
    refine ⟨_, (pss_cons (ps_expr (pe_callC c_need_word (hr.mono (by decide)) (by rfl) (passes_call KL.def_takes fun _ _ _ _ h => h) (pa_cons (pe_fld (pv 0) rfl) (pa_cons (pv 1) pa_nil))))
 (pss_one (ps_ret (pe_makeC c_Blend___init__ (hr.mono (by decide)) (by rfl) (passes_call KL.def_takes fun _ _ _ _ h => h) (pa_cons (pe_fld (pv 0) rfl) (pa_cons (pe_fld (pv 0) rfl) (pa_cons (pe_fld (pv 0) rfl) (pa_cons (pe_op op_xor (pe_fld (pv 0) rfl) (pv 1)) pa_nil)))))))), at_start (σ := [some (.ref p), some v]) rfl ?_⟩
    try dsimp only [KC.cx_KX]
    have cl := T.cl; have nw := T.n_width; have ns := T.n_shift; have nk := T.n_keep; have nf := T.n_flip
    have wl := nm.w3.le
    walk_at "rd"
    refine ⟨w, v, t, rfl, nm.w3, od, fun y => ?_, fun y d H' sm hd => x y d H' sm hd⟩
    obtain ⟨n, hn, rfl⟩ := isWord_of y
    obtain rfl : v = .int n := od
    walk_at "rd"
    rw [KBL.bXor]
    refine fun x dx nx ndx nxd => make_b nx ndx ⟨nm.w3, nm.lo, nm.hi, nm.kl, Nat.xor_lt_two_pow nm.fl hn⟩ fun H' B' sm => ?_
    exact q n hn rfl H' x B' sm
theorem ok_const {f C aW cW cS cR : Addr} {fd : FuncData} (F : Fun K "constant" "Blend.constant" s_Blend_constant f fd) (T : TxtB K mg C aW) (c_need_width : KB.Callee P w K mg base (L2.CX P w) 3 "need_width" ["width"] (spNW cW)) (c_need_word : KB.Callee P w K mg base (L2.CX P w) 5 "need_word" ["width", "value"] (spNeed cR)) (c_Blend___init__ : CalleeI P w K mg base (L2.CX P w) 6 C "Blend" ["self", "width", "shift", "keep", "flip"] (spBlend C cW cS cR)) : FnOk P w K mg base (L2.CX P w) 8 f fd ["cls", "width", "value"] (spConst C cW cR) := by
  refine F.okX sc_Blend_constant (fun vs H Q E h => ?_) (fun cdv A outer s H vs Q E hr h => ?_)
  · obtain ⟨v1, v2, t1, t2, rfl, _⟩ := h
    rfl
  · obtain ⟨v1, v2, t1, t2, rfl, o1, o2, x1, x2, q⟩ := h
    refine ⟨_, (pss_cons (ps_expr (pe_callC c_need_width (hr.mono (by decide)) (by rfl) (passes_call KL.def_takes fun _ _ _ _ h => h) (pa_cons (pv 1) pa_nil)))
 (pss_cons (ps_expr (pe_callC c_need_word (hr.mono (by decide)) (by rfl) (passes_call KL.def_takes fun _ _ _ _ h => h) (pa_cons (pv 1) (pa_cons (pv 2) pa_nil))))
 (pss_one (ps_ret (KP.pe_makeL c_Blend___init__ (hr.mono (by decide)) (passes_call KL.def_takes fun _ _ _ _ h => h) (pv 0) (pa_cons (pv 1) (pa_cons pe_int (pa_cons pe_int (pa_cons (pv 2) pa_nil))))))))), at_start (σ := [some (.ref C), some v1, some v2]) rfl ?_⟩
    try dsimp only [KC.cx_KX]
    walk_at "rd"
    refine ⟨v1, t1, rfl, o1, fun y1 => ?_, x1⟩
    obtain ⟨w, w3, rfl⟩ := isW_of y1
    obtain rfl : v1 = .int w := o1
    walk_at "rd"
    refine ⟨w, v2, t2, rfl, w3, o2, fun y2 => ?_, x2 w rfl w3⟩
    obtain ⟨n, hn, rfl⟩ := isWord_of y2
    obtain rfl : v2 = .int n := o2
    walk_at "rd"
    refine KP.r_makeL ?_
    walk_at "rd"
    refine ⟨rfl, ?_⟩
    walk_at "rd"
    have wl := w3.le
    exact fun x dx nx ndx nxd => make_b (m := 0) nx ndx ⟨w3, by omega, by omega, Nat.two_pow_pos w, hn⟩ fun H' B' sm => q w n rfl rfl w3 hn H' x B' sm

end
end K02


namespace K02
open PySem L2 KB KO KY KV KW
def spInv (C : Addr) : Sp := fun vs H Q _ => ∃ (p : Addr) (w : Nat) (s : Int) (k f : Nat), vs = [.ref p] ∧ BlendAt C H p w s k f ∧ ∀ H' x, MadeAt C H' x w s k (f ^^^ KBL.onesN w) → Same H H' → Q (.ref x) H'
def spIsC (C : Addr) : Sp := fun vs H Q _ => ∃ (p : Addr) (w : Nat) (s : Int) (k f : Nat), vs = [.ref p] ∧ BlendAt C H p w s k f ∧ Q (.bl (decide (k = 0))) H
def spSrc (C : Addr) : SpG := fun vs H Q _ => ∃ (p : Addr) (w : Nat) (s : Int) (k f : Nat), vs = [.ref p] ∧ BlendAt C H p w s k f ∧ ∀ ys H', Same H H' → PairsAt H' ys (KBL.srcsK w s k) → Q ys H'
theorem nat_int {k : Nat} {j : Nat} : decide (V.int (k : Int) = V.int (j : Int)) = decide (k = j) := by
  rw [decI]
  exact decide_eq_decide.mpr (by omega)
theorem srcsK_next (w : Nat) (s : Int) (k i : Nat) : ((List.range (i + 1)).filter (k.testBit ·)).map (fun (p : Nat) => ((p : Int), (p : Int) - s)) = ((List.range i).filter (k.testBit ·)).map (fun (p : Nat) => ((p : Int), (p : Int) - s)) ++ (if k.testBit i = true then [((i : Int), (i : Int) - s)] else []) := by
  rw [List.range_succ, List.filter_append, List.map_append]
  congr 1
  rw [List.filter_cons]
  split <;> rfl


section
variable {P : Program} {w : World} {K : PySem.W.Frag} {mg : Str → Option Value} {base : Heap}
theorem ok_inv {f C aW cW cS cR : Addr} {fd : FuncData} (F : Fun K "__invert__" "Blend.__invert__" s_Blend___invert__ f fd) (T : TxtB K mg C aW) (c_ones : KB.Callee P w K mg base CX0 1 "ones" ["width"] spOnes) (c_Blend___init__ : CalleeI P w K mg base (L2.CX P w) 6 C "Blend" ["self", "width", "shift", "keep", "flip"] (spBlend C cW cS cR)) : FnOk P w K mg base CX0 8 f fd ["self"] (spInv C) := by
  refine F.ok sc_Blend___invert__ (fun vs H Q E h => ?_) (fun cdv A outer s H vs Q E hr h => ?_)
  · obtain ⟨p, w, s, k, f, rfl, _⟩ := h
    rfl
  · obtain ⟨p, w, s, k, f, rfl, ⟨nm, dx, h1⟩, q⟩ := h
    refine ⟨_, (pss_one (ps_ret (pe_makeC c_Blend___init__ (hr.mono (by decide)) (by rfl) passL (pa_cons (pe_fld (pv 0) rfl) (pa_cons (pe_fld (pv 0) rfl) (pa_cons (pe_fld (pv 0) rfl) (pa_cons (pe_op op_xor (pe_fld (pv 0) rfl) (pe_callC c_ones (hr.mono (by decide)) (by rfl) pass0 (pa_cons (pe_fld (pv 0) rfl) pa_nil))) pa_nil))))))), at_start (σ := [some (.ref p)]) rfl ?_⟩
    try dsimp only [cx_K]
    have cl := T.cl; have nw := T.n_width; have ns := T.n_shift; have nk := T.n_keep; have nf := T.n_flip
    walk_at "rd"
    refine ⟨w, rfl, nm.w3.le.2, ?_⟩
    walk_at "rd"
    rw [KBL.bXor]
    walk_at "rd"
    refine fun x dx nx ndx nxd => make_b nx ndx ⟨nm.w3, nm.lo, nm.hi, nm.kl, Nat.xor_lt_two_pow nm.fl (KBL.ones_lt w)⟩ fun H' B sm => ?_
    exact q H' x B sm

theorem ok_isc {f C aW : Addr} {fd : FuncData} {j : Nat} (F : Fun K "is_constant" "Blend.is_constant" s_Blend_is_constant f fd) (T : TxtB K mg C aW) : FnOk P w K mg base CX0 (j + 1) f fd ["self"] (spIsC C) := by
  refine F.ok sc_Blend_is_constant (fun vs H Q E h => ?_) (fun cdv A outer s H vs Q E hr h => ?_)
  · obtain ⟨p, w, s, k, f, rfl, _⟩ := h
    rfl
  · obtain ⟨p, w, s, k, f, rfl, ⟨nm, dx, h1⟩, q⟩ := h
    refine ⟨_, (pss_one (ps_ret (pe_cmpR op_eq (pe_fld (pv 0) rfl) pe_int (nomark _)))), at_start (σ := [some (.ref p)]) rfl ?_⟩
    try dsimp only [cx_K]
    have cl := T.cl; have nk := T.n_keep
    walk_at "rd"
    rw [show V.int 0 = V.int ((0 : Nat) : Int) from rfl, nat_int]
    exact q
theorem ok_src {f C aW : Addr} {oc kV dc pm cdv ct : Value} {od an : Option Addr} {sl : Array (Option Value)} (look : K.lookup f = some ⟨oc, od, .func (PySem.W.fnOf "sources" "Blend.sources" (defArgs s_Blend_sources) (defBody s_Blend_sources) (defScope s_Blend_sources) .none kV dc pm an cdv ct), sl⟩) (code : PySem.W.codeIn K cdv "Blend.sources" = true) (T : TxtB K mg C aW) :
    GFn P w K mg base 1 f (PySem.W.fnOf "sources" "Blend.sources" (defArgs s_Blend_sources) (defBody s_Blend_sources) (defScope s_Blend_sources) .none kV dc pm an cdv ct) ["self"] (spSrc C) := by
  refine gfn_of look code sc_Blend_sources (fun vs H Q E h => ?_) (fun A outer s H vs Q E pn hr h => ?_)
  · obtain ⟨p, w, s, k, f, rfl, _⟩ := h
    rfl
  · obtain ⟨p, w, s, k, f, rfl, ⟨nm, dx, h1⟩, q⟩ := h
    have wl := nm.w3.le
    have kp := nm.kl
    have wp := nm.w3.pow
    refine ⟨_, (gss_cons (KGen.gs_for owns_gcx rfl (pi_range1 rfl T.z_range (pa_cons (pe_fld (pv 0) rfl) pa_nil)) (pg_name (i := 1) sc_Blend_sources.nd rfl (by first | exact Or.inl rfl | exact Or.inr rfl))
 (gss_cons (KGen.gs_if (pt_cmpR op_eq (pe_op op_and (pe_op op_shr (pe_fld (pv 0) rfl) (pv 1)) pe_int) pe_int (nomark _)) (gss_cons (gs_yield (pe_tup (pa_cons (pv 1) (pa_cons (pe_op op_sub (pv 1) (pe_fld (pv 0) rfl)) pa_nil))))
 gss_nil) gss_nil)
 gss_nil))
 gss_nil), ?_⟩
    have cl := T.cl; have nw := T.n_width; have ns := T.n_shift; have nk := T.n_keep
    change tGThen (KGen.tGFor (iRng1 (tCons (tFld K (tVar 0) "width") tNil)) (gName 1) (tGThen (KGen.tGIf _ _ _) tG0)) tG0 { nx := fun ys x H' => Q ys H', rt := fun ys v H' => v = V.non ∧ Q ys H' } [] [some (.ref p), none] H
    refine KU.r_gthen (KU.r_gfor ?_)
    walk_at "rd"
    refine ⟨by omega, by omega, ?_⟩
    rw [show ((w : Int)).toNat = w by omega]
    refine KT.gforW (walk_range (lo := 0) (n := w)) (fun i ys σ' H' => ∃ y1, σ' = [some (.ref p), y1] ∧ Same H H' ∧ ys.length ≤ i ∧ PairsAt H' ys (((List.range i).filter (k.testBit ·)).map fun (p : Nat) => ((p : Int), (p : Int) - s))) ⟨_, rfl, Same.refl _, Nat.le_refl _, PairsAt.nil⟩ (fun _ _ _ _ _ _ => trivial) ?_ ?_
    · rintro i x ys σ' _ H1 hi ⟨y1, rfl, s1, ly, pa⟩ ⟨rfl, rfl⟩
      have h2 := s1 _ _ h1
      walk_at "rd"
      refine KU.r_gthen (KU.r_gif ?_)
      walk_at "rd"
      rw [show (0 + (i : Int)).toNat = i by omega, KBL.bit_one, show V.int 1 = V.int ((1 : Nat) : Int) from rfl, nat_int]
      have e0 : decide (KBL.b2n (k.testBit i) = 1) = k.testBit i := by cases k.testBit i <;> rfl
      rw [e0]
      have en := srcsK_next w s k i
      cases hb : k.testBit i with
      | true =>
        rw [hb, if_pos rfl] at en
        refine iteT ?_
        refine KU.r_gthen (KU.r_gyield (small1000' (by omega)) ?_)
        walk_at "rd"
        refine ⟨by walk_at "sz", fun a na => ?_⟩
        refine KU.r_g0 (KU.r_g0 ⟨_, rfl, s1.trans (same_new na), by simp; omega, ?_⟩)
        rw [en]
        refine (pa.up (same_new na)).snoc ?_
        rw [upd_same, show (0 : Int) + (i : Int) = (i : Int) by omega]
      | false =>
        rw [hb, if_neg (by decide), List.append_nil] at en
        refine iteF ?_
        refine KU.r_g0 (KU.r_g0 ⟨_, rfl, s1, by omega, ?_⟩)
        rw [en]
        exact pa
    · rintro ys σ' H1 ⟨y1, rfl, s1, ly, pa⟩
      exact KU.r_g0 (q ys H1 s1 pa)

end
end K02


namespace K02
open PySem L2 KB KO KY KV KW
def spTop : Sp := fun vs H Q _ => ∃ w : Nat, vs = [.int w] ∧ W3 w ∧ ∀ H', Same H H' → Q (.int (KBL.onesN w : Nat)) H'
def spMov : Sp := fun vs H Q _ => ∃ (w v : Nat) (s : Int), vs = [.int w, .int v, .int s] ∧ W3 w ∧ v < 2 ^ w ∧ 0 - (w : Int) ≤ s ∧ s ≤ w ∧ ∀ H', Same H H' → Q (.int (KBL.shN w v s : Nat)) H'
def spWord : Sp := fun vs H Q _ => ∃ (pen pc : Addr) (w k : Nat), vs = [.ref pen, .int w] ∧ W3 w ∧ PenC H pen pc (k + 7) ∧ ∀ (n : Nat) H', n < 2 ^ w → PenC H' pen pc k → Keep pen H H' → Q (.int n) H'

/-! ### a made blend can be moved -/
theorem movOk {w : Nat} {s s' : Int} {m : Nat} (lo : 0 - (w : Int) ≤ s') (hi : s' ≤ w) : MovOk w (KBL.shiftN w s m) s' (KBL.keepN w s m) := by
  refine ⟨lo, hi, fun z => ?_⟩
  obtain ⟨p, hp⟩ := Nat.exists_testBit_of_ne_zero z
  rw [KBL.bit_sh (KBL.keep_lt w s m)] at hp
  simp only [Bool.and_eq_true, decide_eq_true_eq] at hp
  obtain ⟨h1, h2, h3⟩ := hp
  rw [KBL.bit_keep] at h3
  obtain ⟨g1, g2, g3⟩ := KBL.src_of h3
  have hk : KBL.keepN w s m ≠ 0 := fun y => by
    have e := KBL.bit_keep w s m ((p : Int) - s').toNat
    rw [y, h3, Nat.zero_testBit] at e
    cases e
  unfold KBL.shiftN
  rw [if_neg hk]
  omega

/-- a step of the law: what is done to a word -/
inductive Stp where
  | beg (s : Int) (m f : Nat)
  | and (n : Nat)
  | or (n : Nat)
  | xor (n : Nat)
  | inv
  | mov (s : Int)
def Stp.word : Stp → Str
  | .beg .. => "begin"
  | .and _ => "&"
  | .or _ => "|"
  | .xor _ => "^"
  | .inv => "~"
  | .mov _ => "move"
def Stp.ok (w : Nat) : Stp → Prop
  | .beg s m f => 0 - (w : Int) ≤ s ∧ s ≤ w ∧ m < 2 ^ w ∧ f < 2 ^ w
  | .and n => n < 2 ^ w
  | .or n => n < 2 ^ w
  | .xor n => n < 2 ^ w
  | .inv => True
  | .mov s => 0 - (w : Int) ≤ s ∧ s ≤ w
def doneS (w : Nat) (v : Nat) : Stp → Nat
  | .beg s m f => (KBL.shN w v s &&& m) ^^^ f
  | .and n => v &&& n
  | .or n => v ||| n
  | .xor n => v ^^^ n
  | .inv => v ^^^ KBL.onesN w
  | .mov s => KBL.shN w v s
def doneN (w : Nat) (ts : List Stp) (v : Nat) : Nat := ts.foldl (doneS w) v
theorem doneN_snoc (w : Nat) (ts : List Stp) (t : Stp) (v : Nat) : doneN w (ts ++ [t]) v = doneS w (doneN w ts v) t := by
  unfold doneN
  rw [List.foldl_append]
  rfl
theorem doneS_lt {w v : Nat} {t : Stp} (h : t.ok w) (hv : v < 2 ^ w) : doneS w v t < 2 ^ w := by
  cases t with
  | beg s m f => exact Nat.xor_lt_two_pow (Nat.and_lt_two_pow _ h.2.2.1) h.2.2.2
  | and n => exact Nat.and_lt_two_pow _ h
  | or n => exact Nat.or_lt_two_pow hv h
  | xor n => exact Nat.xor_lt_two_pow hv h
  | inv => exact Nat.xor_lt_two_pow hv (KBL.ones_lt w)
  | mov s => exact KBL.sh_lt hv
theorem doneN_lt {w : Nat} : ∀ (ts : List Stp) (v : Nat), (∀ t ∈ ts, t.ok w) → v < 2 ^ w → doneN w ts v < 2 ^ w
  | [], _, _, h => h
  | t :: ts, v, ok, h => doneN_lt ts (doneS w v t) (fun u m => ok u (List.mem_cons_of_mem _ m)) (doneS_lt (ok t List.mem_cons_self) h)
def NumAt (H : Hp) (x : V) : Stp → Prop
  | .beg s m f => ∃ b, x = .ref b ∧ H b = some (.tup [.int s, .int (m : Nat), .int (f : Nat)])
  | .and n => x = .int (n : Nat)
  | .or n => x = .int (n : Nat)
  | .xor n => x = .int (n : Nat)
  | .inv => x = .int 0
  | .mov s => x = .int s
def StepAt (H : Hp) (v : V) (t : Stp) : Prop := ∃ a x, v = .ref a ∧ H a = some (.tup [.str t.word, x]) ∧ NumAt H x t
theorem StepAt.sn {H H' : Hp} {v : V} {t : Stp} (h : StepAt H v t) (s : KD.SameN H H') : StepAt H' v t := by
  obtain ⟨a, x, rfl, e, n⟩ := h
  refine ⟨a, x, rfl, s.tup e, ?_⟩
  cases t with
  | beg s0 m f =>
    obtain ⟨b, rfl, eb⟩ := n
    exact ⟨b, rfl, s.tup eb⟩
  | and n0 => exact n
  | or n0 => exact n
  | xor n0 => exact n
  | inv => exact n
  | mov s0 => exact n
def StepsAt (H : Hp) (ys : List V) (ts : List Stp) : Prop := ys.length = ts.length ∧ ∀ (i : Nat) (v : V) (t : Stp), ys[i]? = some v → ts[i]? = some t → StepAt H v t
theorem StepsAt.sn {H H' : Hp} {ys : List V} {ts : List Stp} (h : StepsAt H ys ts) (s : KD.SameN H H') : StepsAt H' ys ts := ⟨h.1, fun i v t h1 h2 => (h.2 i v t h1 h2).sn s⟩
theorem StepsAt.snoc {H : Hp} {ys : List V} {ts : List Stp} {v : V} {t : Stp} (h : StepsAt H ys ts) (e : StepAt H v t) : StepsAt H (ys ++ [v]) (ts ++ [t]) := by
  refine ⟨by simp [h.1], fun i u r h1 h2 => ?_⟩
  by_cases lt : i < ys.length
  · rw [List.getElem?_append_left lt] at h1
    rw [List.getElem?_append_left (by rw [← h.1]; exact lt)] at h2
    exact h.2 i u r h1 h2
  · rw [List.getElem?_append_right (by omega)] at h1
    rw [List.getElem?_append_right (by rw [← h.1]; omega), ← h.1] at h2
    have h0 : i - ys.length = 0 := by
      cases z : i - ys.length with
      | zero => rfl
      | succ m => rw [z] at h1; simp at h1
    rw [h0] at h1 h2
    cases h1
    cases h2
    exact e
def spDone : Sp := fun vs H Q _ => ∃ (w v : Nat) (l : Addr) (ys : List V) (ts : List Stp), vs = [.int w, .ref l, .int v] ∧ W3 w ∧ H l = some (.lst ys) ∧ StepsAt H ys ts ∧ (∀ t ∈ ts, t.ok w) ∧ v < 2 ^ w ∧ ∀ H', Same H H' → Q (.int (doneN w ts v : Nat)) H'

section
variable {P : Program} {w : World} {K : PySem.W.Frag} {mg : Str → Option Value} {base : Heap}
theorem ok_word {f : Addr} {fd : FuncData} (F : Fun K "_law_word" "_law_word" s__law_word f fd) (T : Txt mg) (c__law_draw : KB.Callee P w K mg base CX0 1 "_law_draw" ["_law_pen_here", "_law_many"] spDraw) : FnOk P w K mg base CX0 2 f fd ["_law_pen_here", "_law_width"] spWord := by
  refine F.ok sc__law_word (fun vs H Q E h => ?_) (fun cdv A outer s H vs Q E hr h => ?_)
  · obtain ⟨pen, pc, w, k, rfl, _⟩ := h
    rfl
  · obtain ⟨pen, pc, w, k, rfl, w3, pn, q⟩ := h
    have wl := w3.le
    have wp := w3.pow
    refine ⟨_, (pss_cons (ps_set (i := 2) sc__law_word.nd rfl (by first | exact Or.inl rfl | exact Or.inr rfl) (pe_dget (hu_of hr) (pe_disp (pps_cons pe_int pe_int (pps_cons pe_int pe_int (pps_cons pe_int pe_int pps_nil))) (by rfl) (by rfl) (fun z => by cases z) (by decide)) (pv 1) (fun _ _ => rfl)))
 (pss_cons (ps_set (i := 3) sc__law_word.nd rfl (by first | exact Or.inl rfl | exact Or.inr rfl) pe_int)
 (pss_cons (ps_for PassesOwn.never rfl (pi_range1 rfl T.z_range (pa_cons (pe_op op_fdiv (pv 1) pe_int) pa_nil)) (pg_name (i := 4) sc__law_word.nd rfl (by first | exact Or.inl rfl | exact Or.inr rfl))
 (pss_one (ps_set (i := 3) sc__law_word.nd rfl (by first | exact Or.inl rfl | exact Or.inr rfl) (pe_op op_add (pe_op op_mul pe_int (pv 3)) (pe_callC c__law_draw (hr.mono (by decide)) (by rfl) pass0 (pa_cons (pv 0) (pa_cons pe_int pa_nil)))))))
 (pss_cons (ps_set (i := 5) sc__law_word.nd rfl (by first | exact Or.inl rfl | exact Or.inr rfl) (pe_op op_shl pe_int (pe_callC c__law_draw (hr.mono (by decide)) (by rfl) pass0 (pa_cons (pv 0) (pa_cons (pv 1) pa_nil)))))
 (pss_one (ps_ret (pe_ix ix_list (pe_lst (pa_cons pe_int (pa_cons (pv 2) (pa_cons (pv 5) (pa_cons (pe_op op_sub (pv 2) (pv 5)) (pa_cons (pv 3) (pa_cons (pv 3) pa_nil))))))) (pe_callC c__law_draw (hr.mono (by decide)) (by rfl) pass0 (pa_cons (pv 0) (pa_cons pe_int pa_nil))) (fun _ _ => rfl)))))))), at_start (σ := [some (.ref pen), some (.int w), none, none, none, none]) rfl ?_⟩
    try dsimp only [cx_K]
    walk_at "rd"
    refine r_wdict w3 (mono_var1 rfl) fun H1 s1 => ?_
    rw [top_is w3]
    have pn1 := pn.up s1
    walk_at "rd"
    have hb : ((w : Int) / 8).toNat ≤ 4 ∧ 256 ^ ((w : Int) / 8).toNat = 2 ^ w := by
      rcases w3 with rfl | rfl | rfl <;> decide
    obtain ⟨hb1, hb2⟩ := hb
    refine ⟨by omega, by omega, ?_⟩
    refine forW (walk_range (lo := 0) (n := ((w : Int) / 8).toNat)) (fun i σ H' => ∃ (y4 : Option V) (m : Nat), σ = [some (.ref pen), some (.int w), some (.int ((KBL.onesN w : Nat) : Int)), some (.int m), y4, none] ∧ m < 256 ^ i ∧ PenC H' pen pc (k + 7 - i) ∧ Keep pen H H')
      ⟨_, 0, rfl, by decide, pn1, Keep.same s1⟩ (fun _ _ _ _ _ => trivial) ?_ ?_
    · rintro i x σ' _ H2 hi ⟨y4, m, rfl, hm, pn2, kp2⟩ ⟨rfl, rfl⟩
      have hm4 : m < 4294967296 := Nat.lt_of_lt_of_le hm (Nat.le_trans (Nat.pow_le_pow_right (by decide) (show i ≤ 4 by omega)) (by decide))
      walk_at "rd"
      refine ⟨pen, pc, 256, k + 7 - (i + 1), rfl, by decide, by decide, pn2.mono (by omega), fun r H3 r0 r1 pn3 kp3 => ?_⟩
      walk_at "rd"
      refine ⟨some (.int (0 + (i : Int))), 256 * m + r.toNat, ?_, ?_, pn3, kp2.tr kp3⟩
      · rw [show ((256 * m + r.toNat : Nat) : Int) = 256 * (m : Int) + r by omega]
        rfl
      · rw [Nat.pow_succ]
        omega
    · rintro σ' H2 ⟨y4, m, rfl, hm, pn2, kp2⟩
      rw [hb2] at hm
      walk_at "rd"
      refine ⟨pen, pc, w, k + 1, rfl, by omega, by omega, pn2.mono (by omega), fun r H3 r0 r1 pn3 kp3 => ?_⟩
      walk_at "rd"
      have er : ((1 : Int) * 2 ^ r.toNat) = ((2 ^ r.toNat : Nat) : Int) := by
        rw [Int.one_mul, Int.natCast_pow]
        rfl
      rw [er]
      have hr2 : 2 ^ r.toNat < 2 ^ w := KBL.two_lt (by omega)
      generalize 2 ^ r.toNat = o at hr2 ⊢
      walk_at "rd"
      refine ⟨by walk_at "sz", fun l nl => ?_⟩
      walk_at "rd"
      have nlp : l ≠ pen := pn3.ne nl
      refine ⟨pen, pc, 6, k, rfl, by decide, by decide, (pn3.up (same_new nl)).mono (by omega), fun r6 H4 a0 a1 pn4 kp4 => ?_⟩
      have hl := kp4 _ _ upd_same nlp
      have kp : Keep pen H H4 := ((kp2.tr kp3).tr (Keep.same (same_new nl))).tr kp4
      have on : KBL.onesN w = 2 ^ w - 1 := rfl
      have fin : ∀ n : Nat, n < 2 ^ w → Q (.int n) H4 := fun n hn => q n H4 hn pn4 kp
      clear kp kp2 kp3 kp4 pn2 pn3 pn4 q
      obtain ⟨j, rfl⟩ : ∃ j : Nat, r6 = (j : Int) := ⟨r6.toNat, by omega⟩
      have hj : j < 6 := by omega
      match j, hj with
      | 0, _ => exact r_ixL (n := 0) (SqL.of hl) rfl (fin 0 (by omega))
      | 1, _ => exact r_ixL (n := 1) (SqL.of hl) rfl (fin _ (by omega))
      | 2, _ => exact r_ixL (n := 2) (SqL.of hl) rfl (fin _ hr2)
      | 3, _ => exact r_ixL (n := 3) (v := .int ((KBL.onesN w - o : Nat) : Int)) (SqL.of hl) (by rw [show ((KBL.onesN w - o : Nat) : Int) = ((KBL.onesN w : Nat) : Int) - (o : Int) by omega]; rfl) (fin _ (by omega))
      | 4, _ => exact r_ixL (n := 4) (SqL.of hl) rfl (fin _ hm)
      | 5, _ => exact r_ixL (n := 5) (SqL.of hl) rfl (fin _ hm)
      | j + 6, h => exact absurd h (by omega)

theorem ok_top {f : Addr} {fd : FuncData} {k : Nat} (F : Fun K "_law_top" "_law_top" s__law_top f fd) : FnOk P w K mg base CX0 (k + 1) f fd ["_law_width"] spTop := by
  refine F.ok sc__law_top (fun vs H Q E h => ?_) (fun cdv A outer s H vs Q E hr h => ?_)
  · obtain ⟨w, rfl, _⟩ := h
    rfl
  · obtain ⟨w, rfl, w3, q⟩ := h
    refine ⟨_, (pss_one (ps_ret (pe_dget (hu_of hr) (pe_disp (pps_cons pe_int pe_int (pps_cons pe_int pe_int (pps_cons pe_int pe_int pps_nil))) (by rfl) (by rfl) (fun z => by cases z) (by decide)) (pv 0) (fun _ _ => rfl)))), at_start (σ := [some (.int w)]) rfl ?_⟩
    try dsimp only [cx_K]
    walk_at "rd"
    refine r_wdict w3 (mono_var1 rfl) fun H' sm => ?_
    rw [top_is w3]
    exact q _ sm
theorem ok_mov {f : Addr} {fd : FuncData} (F : Fun K "_law_moved" "_law_moved" s__law_moved f fd) (c__law_top : KB.Callee P w K mg base CX0 1 "_law_top" ["_law_width"] spTop) : FnOk P w K mg base CX0 2 f fd ["_law_width", "_law_value", "_law_step_here"] spMov := by
  refine F.ok sc__law_moved (fun vs H Q E h => ?_) (fun cdv A outer s H vs Q E hr h => ?_)
  · obtain ⟨w, v, s, rfl, _⟩ := h
    rfl
  · obtain ⟨w, v, s, rfl, w3, hv, lo, hi, q⟩ := h
    have wl := w3.le
    have wp := w3.pow
    unfold KBL.shN at q
    refine ⟨_, (pss_cons (ps_if (pt_cmpR op_lt (pv 2) pe_int (nomark _)) (pss_one (ps_ret (pe_op op_shr (pv 1) (pe_op op_sub pe_int (pv 2)))))
 pss_nil)
 (pss_one (ps_ret (pe_op op_and (pe_op op_shl (pv 1) (pv 2)) (pe_callC c__law_top (hr.mono (by decide)) (by rfl) pass0 (pa_cons (pv 0) pa_nil)))))), at_start (σ := [some (.int w), some (.int v), some (.int s)]) rfl ?_⟩
    try dsimp only [cx_K]
    walk_at "rd"
    refine r_ite2 (fun h => ?_) (fun h => ?_)
    · rw [if_pos h] at q
      walk_at "rd"
      rw [KBL.ofShr]
      exact q _ (Same.refl _)
    · rw [if_neg h] at q
      walk_at "rd"
      refine ⟨w, rfl, w3, fun H' sm => ?_⟩
      walk_at "rd"
      rw [KBL.shl_and]
      exact q _ sm

theorem ok_done {f : Addr} {fd : FuncData} (F : Fun K "_law_done" "_law_done" s__law_done f fd) (c__law_top : KB.Callee P w K mg base CX0 1 "_law_top" ["_law_width"] spTop) (c__law_moved : KB.Callee P w K mg base CX0 2 "_law_moved" ["_law_width", "_law_value", "_law_step_here"] spMov) : FnOk P w K mg base CX0 3 f fd ["_law_width", "_law_steps", "_law_value"] spDone := by
  refine F.ok sc__law_done (fun vs H Q E h => ?_) (fun cdv A outer s H vs Q E hr h => ?_)
  · obtain ⟨w, v, l, ys, ts, rfl, _⟩ := h
    rfl
  · obtain ⟨w, v, l, ys, ts, rfl, w3, hl, sa, ok, hv, q⟩ := h
    refine ⟨_, (pss_cons (ps_for PassesOwn.never rfl (pi_list (pv 1)) (pg_tup rfl (pgs_cons (pg_name (i := 3) sc__law_done.nd rfl (by first | exact Or.inl rfl | exact Or.inr rfl)) (pgs_cons (pg_name (i := 4) sc__law_done.nd rfl (by first | exact Or.inl rfl | exact Or.inr rfl)) pgs_nil)))
 (pss_one (ps_if (pt_cmpR op_eq (pv 3) pe_str (nomark _)) (pss_cons (ps_asg (pv 4) (pg_tup rfl (pgs_cons (pg_name (i := 5) sc__law_done.nd rfl (by first | exact Or.inl rfl | exact Or.inr rfl)) (pgs_cons (pg_name (i := 6) sc__law_done.nd rfl (by first | exact Or.inl rfl | exact Or.inr rfl)) (pgs_cons (pg_name (i := 7) sc__law_done.nd rfl (by first | exact Or.inl rfl | exact Or.inr rfl)) pgs_nil)))))
 (pss_one (ps_set (i := 2) sc__law_done.nd rfl (by first | exact Or.inl rfl | exact Or.inr rfl) (pe_op op_xor (pe_op op_and (pe_callC c__law_moved (hr.mono (by decide)) (by rfl) pass0 (pa_cons (pv 0) (pa_cons (pv 2) (pa_cons (pv 5) pa_nil)))) (pv 6)) (pv 7)))))
 (pss_one (ps_if (pt_cmpR op_eq (pv 3) pe_str (nomark _)) (pss_one (ps_set (i := 2) sc__law_done.nd rfl (by first | exact Or.inl rfl | exact Or.inr rfl) (pe_op op_and (pv 2) (pv 4))))
 (pss_one (ps_if (pt_cmpR op_eq (pv 3) pe_str (nomark _)) (pss_one (ps_set (i := 2) sc__law_done.nd rfl (by first | exact Or.inl rfl | exact Or.inr rfl) (pe_op op_or (pv 2) (pv 4))))
 (pss_one (ps_if (pt_cmpR op_eq (pv 3) pe_str (nomark _)) (pss_one (ps_set (i := 2) sc__law_done.nd rfl (by first | exact Or.inl rfl | exact Or.inr rfl) (pe_op op_xor (pv 2) (pv 4))))
 (pss_one (ps_if (pt_cmpR op_eq (pv 3) pe_str (nomark _)) (pss_one (ps_set (i := 2) sc__law_done.nd rfl (by first | exact Or.inl rfl | exact Or.inr rfl) (pe_op op_xor (pv 2) (pe_callC c__law_top (hr.mono (by decide)) (by rfl) pass0 (pa_cons (pv 0) pa_nil)))))
 (pss_one (ps_set (i := 2) sc__law_done.nd rfl (by first | exact Or.inl rfl | exact Or.inr rfl) (pe_callC c__law_moved (hr.mono (by decide)) (by rfl) pass0 (pa_cons (pv 0) (pa_cons (pv 2) (pa_cons (pv 4) pa_nil)))))))))))))))))
 (pss_one (ps_ret (pv 2)))), at_start (σ := [some (.int w), some (.ref l), some (.int v), none, none, none, none, none]) rfl ?_⟩
    try dsimp only [cx_K]
    walk_at "rd"
    refine ⟨l, rfl, ⟨_, SqL.of hl⟩, ?_⟩
    refine forW (walk_list (xs := ys)) (fun i σ' H' => ∃ y3 y4 y5 y6 y7, σ' = [some (.int w), some (.ref l), some (.int (doneN w (ts.take i) v : Nat)), y3, y4, y5, y6, y7] ∧ Same H H' ∧ doneN w (ts.take i) v < 2 ^ w) ⟨_, _, _, _, _, rfl, Same.refl _, hv⟩ (fun i σ' H' _ ⟨_, _, _, _, _, _, sm, _⟩ => SqL.of (sm _ _ hl)) ?_ ?_
    · rintro i x σ' H1 H2 hi ⟨y3, y4, y5, y6, y7, rfl, sm, lt⟩ ⟨rfl, hx⟩
      have hi2 : i < ts.length := by rw [← sa.1]; exact hi
      have ht := List.getElem?_eq_getElem hi2
      have okt := ok _ (List.getElem_mem hi2)
      generalize ts[i] = t at ht okt
      have nx : doneN w (ts.take (i + 1)) v = doneS w (doneN w (ts.take i) v) t := by
        rw [List.take_add_one, ht]
        exact doneN_snoc w _ t v
      have nlt := doneS_lt okt lt
      rw [← nx] at nlt
      generalize doneN w (ts.take i) v = u at lt nx ⊢
      obtain ⟨a, xv, rfl, ea, na⟩ := (sa.2 i x t hx ht).sn (KD.SameN.of sm)
      have fin : ∀ (n : Nat) H', n = doneN w (ts.take (i + 1)) v → Same H2 H' → ∀ z3 z4 z5 z6 z7, ∃ y3 y4 y5 y6 y7, [some (V.int w), some (V.ref l), some (V.int (n : Nat)), z3, z4, z5, z6, z7] = [some (.int w), some (.ref l), some (.int (doneN w (ts.take (i + 1)) v : Nat)), y3, y4, y5, y6, y7] ∧ Same H H' ∧ doneN w (ts.take (i + 1)) v < 2 ^ w :=
        fun n H' e s' z3 z4 z5 z6 z7 => ⟨z3, z4, z5, z6, z7, by rw [e], sm.trans s', nlt⟩
      walk_at "rd"
      cases t with
      | beg s0 m0 f0 =>
        obtain ⟨b, rfl, eb⟩ := na
        obtain ⟨o1, o2, o3, o4⟩ := okt
        refine r_iteT rfl ?_
        walk_at "rd"
        refine ⟨w, u, s0, rfl, w3, lt, o1, o2, fun H3 s3 => ?_⟩
        walk_at "rd"
        rw [KBL.bAnd, KBL.bXor]
        exact fin _ _ nx.symm s3 _ _ _ _ _
      | and n0 =>
        obtain rfl := na
        dsimp only [Stp.word]
        refine r_iteF (by decide +kernel) ?_
        walk_at "rd"
        refine r_iteT rfl ?_
        walk_at "rd"
        rw [KBL.bAnd]
        exact fin _ _ nx.symm (Same.refl _) _ _ _ _ _
      | or n0 =>
        obtain rfl := na
        dsimp only [Stp.word]
        refine r_iteF (by decide +kernel) ?_
        walk_at "rd"
        refine r_iteF (by decide +kernel) ?_
        walk_at "rd"
        refine r_iteT rfl ?_
        walk_at "rd"
        rw [bOrN]
        exact fin _ _ nx.symm (Same.refl _) _ _ _ _ _
      | xor n0 =>
        obtain rfl := na
        dsimp only [Stp.word]
        refine r_iteF (by decide +kernel) ?_
        walk_at "rd"
        refine r_iteF (by decide +kernel) ?_
        walk_at "rd"
        refine r_iteF (by decide +kernel) ?_
        walk_at "rd"
        refine r_iteT rfl ?_
        walk_at "rd"
        rw [KBL.bXor]
        exact fin _ _ nx.symm (Same.refl _) _ _ _ _ _
      | inv =>
        obtain rfl := na
        dsimp only [Stp.word]
        refine r_iteF (by decide +kernel) ?_
        walk_at "rd"
        refine r_iteF (by decide +kernel) ?_
        walk_at "rd"
        refine r_iteF (by decide +kernel) ?_
        walk_at "rd"
        refine r_iteF (by decide +kernel) ?_
        walk_at "rd"
        refine r_iteT rfl ?_
        walk_at "rd"
        refine ⟨w, rfl, w3, fun H3 s3 => ?_⟩
        walk_at "rd"
        rw [KBL.bXor]
        exact fin _ _ nx.symm s3 _ _ _ _ _
      | mov s0 =>
        obtain rfl := na
        dsimp only [Stp.word]
        refine r_iteF (by decide +kernel) ?_
        walk_at "rd"
        refine r_iteF (by decide +kernel) ?_
        walk_at "rd"
        refine r_iteF (by decide +kernel) ?_
        walk_at "rd"
        refine r_iteF (by decide +kernel) ?_
        walk_at "rd"
        refine r_iteF (by decide +kernel) ?_
        walk_at "rd"
        refine ⟨w, u, s0, rfl, w3, lt, okt.1, okt.2, fun H3 s3 => ?_⟩
        walk_at "rd"
        exact fin _ _ nx.symm s3 _ _ _ _ _
    · rintro σ' H1 ⟨y3, y4, y5, y6, y7, rfl, sm, lt⟩
      rw [show ts.take ys.length = ts from List.take_of_length_le (by rw [sa.1]; exact Nat.le_refl _)] at *
      walk_at "rd"
      exact q _ sm
end
end K02


namespace K02
open PySem L2 KB KO KY KV KW
theorem r_par3 {i j l : Nat} {ta : TA} {D : Ends} {σ : L2.St} {H : Hp} (q : ta σ H fun vs H1 => ∃ u v w, vs = [u, v, w] ∧ D.nx (((σ.set i (some u)).set j (some v)).set l (some w)) H1) : tPar3 i j l ta D σ H := q
/-- a blend that does the steps -/
def Does (C : Addr) (H : Hp) (x : Addr) (w : Nat) (ts : List Stp) : Prop := ∃ (s : Int) (m f : Nat), MadeAt C H x w s m f ∧ ∀ v, v < 2 ^ w → KBL.ap w s m f v = doneN w ts v
theorem BlendAt.sn {C : Addr} {H H' : Hp} {p : Addr} {w : Nat} {s : Int} {k f : Nat} (h : BlendAt C H p w s k f) (e : KD.SameN H H') : BlendAt C H' p w s k f := by
  obtain ⟨n, dx, g⟩ := h
  exact ⟨n, dx, e.ins g⟩
theorem Does.sn {C : Addr} {H H' : Hp} {x : Addr} {w : Nat} {ts : List Stp} (h : Does C H x w ts) (e : KD.SameN H H') : Does C H' x w ts := by
  obtain ⟨s, m, f, h1, h2⟩ := h
  exact ⟨s, m, f, BlendAt.sn h1 e, h2⟩
theorem Does.up {C : Addr} {H H' : Hp} {x : Addr} {w : Nat} {ts : List Stp} (h : Does C H x w ts) (e : Same H H') : Does C H' x w ts := h.sn (KD.SameN.of e)
theorem StepAt.up {H H' : Hp} {v : V} {t : Stp} (h : StepAt H v t) (s : Same H H') : StepAt H' v t := h.sn (KD.SameN.of s)
def spBegun (C : Addr) : Sp := fun vs H Q _ => ∃ (pen pc : Addr) (w k : Nat), vs = [.ref pen, .int w] ∧ W3 w ∧ PenC H pen pc (k + 20) ∧ ∀ (a x : Addr) (sv : V) (t : Stp) H', t.ok w → H' a = some (.tup [.ref x, sv]) → StepAt H' sv t → Does C H' x w [t] → PenC H' pen pc k → Keep pen H H' → Q (.ref a) H'
def spStep (C : Addr) : Sp := fun vs H Q _ => ∃ (pen pc x : Addr) (w k : Nat) (ts : List Stp), vs = [.ref pen, .ref x] ∧ Does C H x w ts ∧ (∀ t ∈ ts, t.ok w) ∧ PenC H pen pc (k + 20) ∧ ∀ (a x' : Addr) (sv : V) (t : Stp) H', t.ok w → H' a = some (.tup [.ref x', sv]) → StepAt H' sv t → Does C H' x' w (ts ++ [t]) → PenC H' pen pc k → Keep pen H H' → Q (.ref a) H'
theorem begun_end {C pen pc x : Addr} {w k : Nat} {s : Int} {m f : Nat} {H0 H : Hp} {Q : VK} (ok : Stp.ok w (.beg s m f)) (B : MadeAt C H x w s m f) (pn : PenC H pen pc k) (kp : Keep pen H0 H)
    (q : ∀ (a x : Addr) (sv : V) (t : Stp) H', t.ok w → H' a = some (.tup [.ref x, sv]) → StepAt H' sv t → Does C H' x w [t] → PenC H' pen pc k → Keep pen H0 H' → Q (.ref a) H') {b c d : Addr} (nb : H b = none) (nc : upd H b (.tup [.int s, .int (m : Nat), .int (f : Nat)]) c = none)
    (nd : upd (upd H b (.tup [.int s, .int (m : Nat), .int (f : Nat)])) c (.tup [.str "begin", .ref b]) d = none) : Q (.ref d) (upd (upd (upd H b (.tup [.int s, .int (m : Nat), .int (f : Nat)])) c (.tup [.str "begin", .ref b])) d (.tup [.ref x, .ref c])) := by
  have s4 := ((same_new (o := .tup [.int s, .int (m : Nat), .int (f : Nat)]) nb).trans (same_new (o := .tup [.str "begin", .ref b]) nc)).trans (same_new (o := .tup [.ref x, .ref c]) nd)
  exact q d x (.ref c) (.beg s m f) _ ok upd_same ⟨c, .ref b, rfl, upd_new nd upd_same, b, rfl, upd_new nd (upd_new nc upd_same)⟩ ⟨s, m, f, BlendAt.up B s4, fun v hv => KBL.ap_begin hv⟩ (pn.up s4) (kp.tr (Keep.same s4))
theorem step_end {C pen pc x : Addr} {w k : Nat} {ts : List Stp} {t : Stp} {xv : V} {H0 H : Hp} {Q : VK} (ok : t.ok w) (nu : ∀ H', NumAt H' xv t) (B : Does C H x w (ts ++ [t])) (pn : PenC H pen pc k) (kp : Keep pen H0 H)
    (q : ∀ (a x' : Addr) (sv : V) (t : Stp) H', t.ok w → H' a = some (.tup [.ref x', sv]) → StepAt H' sv t → Does C H' x' w (ts ++ [t]) → PenC H' pen pc k → Keep pen H0 H' → Q (.ref a) H') {c d : Addr} (nc : H c = none)
    (nd : upd H c (.tup [.str t.word, xv]) d = none) : Q (.ref d) (upd (upd H c (.tup [.str t.word, xv])) d (.tup [.ref x, .ref c])) := by
  have s4 := (same_new (o := .tup [.str t.word, xv]) nc).trans (same_new (o := .tup [.ref x, .ref c]) nd)
  exact q d x (.ref c) t _ ok upd_same ⟨c, xv, rfl, upd_new nd upd_same, nu _⟩ (B.up s4) (pn.up s4) (kp.tr (Keep.same s4))
theorem does_bin {C x : Addr} {w : Nat} {ts : List Stp} {t : Stp} {s : Int} {m f : Nat} {H : Hp} {k' f' : Nat} (h : ∀ v, v < 2 ^ w → KBL.ap w s m f v = doneN w ts v) (M : MadeAt C H x w (KBL.shiftN w s m) k' f') (e : ∀ v, v < 2 ^ w → KBL.ap w (KBL.shiftN w s m) k' f' v = doneS w (KBL.ap w s m f v) t) : Does C H x w (ts ++ [t]) :=
  ⟨_, _, _, M, fun v hv => by rw [doneN_snoc, ← h v hv]; exact e v hv⟩
theorem sp_bin {C cR x : Addr} {w : Nat} {s : Int} {m f n : Nat} {H : Hp} {Q : VK} {E : XK} {gk gf : Nat → Nat → Nat → Nat} (M : MadeAt C H x w s m f) (hn : n < 2 ^ w) (q : ∀ H' x', MadeAt C H' x' w (KBL.shiftN w s m) (gk w (KBL.keepN w s m) n) (gf w f n) → Same H H' → Q (.ref x') H') : spBin C cR gk gf [.ref x, .int (n : Nat)] H Q E := by
  refine ⟨x, w, _, _, f, _, .sc (.int n), rfl, M, rfl, fun n' _ e H' x' M' sm => ?_, fun z => ?_⟩
  · obtain rfl : n = n' := by cases e; rfl
    exact q H' x' M' sm
  · rw [isWord_nat hn] at z; cases z
theorem sp_shl {C cS x : Addr} {w : Nat} {s : Int} {m f n : Nat} {H : Hp} {Q : VK} {E : XK} (M : MadeAt C H x w s m f) (hn : n ≤ w) (q : ∀ H' x', MadeAt C H' x' w (KBL.movT w (KBL.shiftN w s m) n (KBL.keepN w s m)) (KBL.shN w (KBL.keepN w s m) n) (KBL.shN w f n) → Same H H' → Q (.ref x') H') : spShl C cS [.ref x, .int (n : Nat)] H Q E := by
  refine ⟨x, w, _, _, f, _, .sc (.int n), rfl, M, rfl, fun n' _ e => ?_, fun z => ?_⟩
  · obtain rfl : n = n' := by cases e; rfl
    exact ⟨movOk (by omega) (by omega), fun H' x' M' sm => q H' x' M' sm⟩
  · rw [isStep_nat hn] at z; cases z
theorem sp_shr {C cS x : Addr} {w : Nat} {s : Int} {m f n : Nat} {H : Hp} {Q : VK} {E : XK} (M : MadeAt C H x w s m f) (hn : n ≤ w) (q : ∀ H' x', MadeAt C H' x' w (KBL.movT w (KBL.shiftN w s m) (0 - n) (KBL.keepN w s m)) (KBL.shN w (KBL.keepN w s m) (0 - n)) (KBL.shN w f (0 - n)) → Same H H' → Q (.ref x') H') : spShr C cS [.ref x, .int (n : Nat)] H Q E := by
  refine ⟨x, w, _, _, f, _, .sc (.int n), rfl, M, rfl, fun n' _ e => ?_, fun z => ?_⟩
  · obtain rfl : n = n' := by cases e; rfl
    exact ⟨movOk (by omega) (by omega), fun H' x' M' sm => q H' x' M' sm⟩
  · rw [isStep_nat hn] at z; cases z

section
variable {P : Program} {w : World} {K : PySem.W.Frag} {mg : Str → Option Value} {base : Heap}
theorem ok_begun {f C aW cW cS cR : Addr} {fd : FuncData} (F : Fun K "_law_begun" "_law_begun" s__law_begun f fd) (T : TxtB K mg C aW) (d1_Blend : KC.CalleeID P w K mg base (L2.CX P w) 6 C "Blend" ["self", "width", "shift", "keep", "flip"] (spBlend C cW cS cR) [.int 0, .non, .int 0]) (c_Blend___init__ : CalleeI P w K mg base (L2.CX P w) 6 C "Blend" ["self", "width", "shift", "keep", "flip"] (spBlend C cW cS cR))
    (cm_Blend_constant : KP.CalleeC P w K mg base (L2.CX P w) 8 C "constant" (spConst C cW cR)) (c__law_top : KB.Callee P w K mg base CX0 1 "_law_top" ["_law_width"] spTop) (c__law_word : KB.Callee P w K mg base CX0 2 "_law_word" ["_law_pen_here", "_law_width"] spWord)
    (c__law_draw : KB.Callee P w K mg base CX0 1 "_law_draw" ["_law_pen_here", "_law_many"] spDraw) : FnOk P w K mg base CX0 9 f fd ["_law_pen_here", "_law_width"] (spBegun C) := by
  refine F.ok sc__law_begun (fun vs H Q E h => ?_) (fun cdv A outer s H vs Q E hr h => ?_)
  · obtain ⟨pen, pc, w, k, rfl, _⟩ := h
    rfl
  · obtain ⟨pen, pc, w, k, rfl, w3, pn, q⟩ := h
    have wl := w3.le
    refine ⟨_, (pss_cons (ps_set (i := 2) sc__law_begun.nd rfl (by first | exact Or.inl rfl | exact Or.inr rfl) (pe_callC c__law_draw (hr.mono (by decide)) (by rfl) pass0 (pa_cons (pv 0) (pa_cons pe_int pa_nil))))
 (pss_cons (ps_if (pt_cmpR op_eq (pv 2) pe_int (nomark _)) (pss_one (ps_ret (pe_tup (pa_cons (KC.pe_makeD d1_Blend (hr.mono (by decide)) (by rfl) passL (pa_cons (pv 1) pa_nil)) (pa_cons (pe_tup (pa_cons pe_str (pa_cons (pe_tup (pa_cons pe_int (pa_cons (pe_callC c__law_top (hr.mono (by decide)) (by rfl) pass0 (pa_cons (pv 1) pa_nil)) (pa_cons pe_int pa_nil)))) pa_nil))) pa_nil)))))
 pss_nil)
 (pss_cons (ps_par3 (i := 3) (j := 4) (l := 5) (by rfl) sc__law_begun.nd rfl rfl rfl (by decide) (by decide) (by decide) rfl rfl rfl (pa_cons (pe_op op_sub (pe_callC c__law_draw (hr.mono (by decide)) (by rfl) pass0 (pa_cons (pv 0) (pa_cons (pe_op op_add (pe_op op_mul pe_int (pv 1)) pe_int) pa_nil))) (pv 1)) (pa_cons (pe_callC c__law_word (hr.mono (by decide)) (by rfl) pass0 (pa_cons (pv 0) (pa_cons (pv 1) pa_nil))) (pa_cons (pe_callC c__law_word (hr.mono (by decide)) (by rfl) pass0 (pa_cons (pv 0) (pa_cons (pv 1) pa_nil))) pa_nil))) (by rfl))
 (pss_cons (ps_if (pt_cmpR op_eq (pv 2) pe_int (nomark _)) (pss_one (ps_ret (pe_tup (pa_cons (KP.pe_cmethC cm_Blend_constant (pe_glob (v := .ref _) (by rfl) T.mg_Blend rfl) (hr.mono (by decide)) passL (pa_cons (pv 1) (pa_cons (pv 5) pa_nil))) (pa_cons (pe_tup (pa_cons pe_str (pa_cons (pe_tup (pa_cons pe_int (pa_cons pe_int (pa_cons (pv 5) pa_nil)))) pa_nil))) pa_nil)))))
 pss_nil)
 (pss_one (ps_ret (pe_tup (pa_cons (pe_makeC c_Blend___init__ (hr.mono (by decide)) (by rfl) passL (pa_cons (pv 1) (pa_cons (pv 3) (pa_cons (pv 4) (pa_cons (pv 5) pa_nil))))) (pa_cons (pe_tup (pa_cons pe_str (pa_cons (pe_tup (pa_cons (pv 3) (pa_cons (pv 4) (pa_cons (pv 5) pa_nil)))) pa_nil))) pa_nil))))))))), at_start (σ := [some (.ref pen), some (.int w), none, none, none, none]) rfl ?_⟩
    try dsimp only [cx_K]
    walk_at "rd"
    refine ⟨pen, pc, 3, k + 19, rfl, by decide, by decide, pn, fun r H1 a1 b1 pn1 kp1 => ?_⟩
    walk_at "rd"
    refine r_ite2 (fun h => ?_) (fun h => ?_)
    · walk_at "rd"
      refine ⟨_, rfl, fun x dx nx ndx nxd => make_d nx ndx w3 fun H2 B sm => ?_⟩
      walk_at "rd"
      refine ⟨w, rfl, w3, fun H3 s3 => ?_⟩
      walk_at "rd"
      refine ⟨by walk_at "sz", fun b nb => ?_⟩
      walk_at "rd"
      refine ⟨by walk_at "sz", fun c nc => ?_⟩
      walk_at "rd"
      refine ⟨by walk_at "sz", fun d nd => ?_⟩
      exact begun_end (f := 0) ⟨by omega, by omega, KBL.ones_lt w, Nat.two_pow_pos w⟩ (BlendAt.up B s3) (((pn1.up sm).up s3).mono (by omega)) (kp1.tr (Keep.same (sm.trans s3))) q nb nc nd
    walk_at "rd"
    refine r_par3 ?_
    walk_at "rd"
    refine ⟨pen, pc, (2 * (w : Int) + 1), k + 18, rfl, by omega, by omega, pn1.mono (by omega), fun r2 H2 a2 b2 pn2 kp2 => ?_⟩
    walk_at "rd"
    refine ⟨pen, pc, w, k + 11, rfl, w3, pn2.mono (by omega), fun m H3 hm pn3 kp3 => ?_⟩
    walk_at "rd"
    refine ⟨pen, pc, w, k + 4, rfl, w3, pn3.mono (by omega), fun f0 H4 hf pn4 kp4 => ?_⟩
    have kp := ((kp1.tr kp2).tr kp3).tr kp4
    clear kp1 kp2 kp3 kp4 pn1 pn2 pn3
    refine ⟨_, _, _, rfl, ?_⟩
    obtain ⟨s0, es⟩ : ∃ s0 : Int, r2 - (w : Int) = s0 := ⟨_, rfl⟩
    rw [es]
    have lo : 0 - (w : Int) ≤ s0 := by omega
    have hi : s0 ≤ w := by omega
    clear es a2 b2 a1 b1
    walk_at "rd"
    refine r_ite2 (fun h => ?_) (fun h => ?_)
    · walk_at "rd"
      refine KP.r_cmeth ?_
      walk_at "rd"
      refine ⟨rfl, ?_⟩
      walk_at "rd"
      refine ⟨.int w, .int (f0 : Nat), .sc (.int w), .sc (.int f0), rfl, rfl, rfl, fun z => ?_, fun w' e _ z => ?_, fun w' n e1 e2 _ _ H5 x B sm => ?_⟩
      · rw [isW_nat w3] at z; cases z
      · obtain rfl : w = w' := by cases e; rfl
        rw [isWord_nat hf] at z; cases z
      obtain rfl : w = w' := by cases e1; rfl
      obtain rfl : f0 = n := by cases e2; rfl
      walk_at "rd"
      refine ⟨by walk_at "sz", fun b nb => ?_⟩
      walk_at "rd"
      refine ⟨by walk_at "sz", fun c nc => ?_⟩
      walk_at "rd"
      refine ⟨by walk_at "sz", fun d nd => ?_⟩
      exact begun_end (m := 0) ⟨by omega, by omega, Nat.two_pow_pos w, hf⟩ B ((pn4.up sm).mono (by omega)) (kp.tr (Keep.same sm)) q nb nc nd
    · walk_at "rd"
      refine fun x dx nx ndx nxd => make_b nx ndx ⟨w3, lo, hi, hm, hf⟩ fun H5 B sm => ?_
      walk_at "rd"
      refine ⟨by walk_at "sz", fun b nb => ?_⟩
      walk_at "rd"
      refine ⟨by walk_at "sz", fun c nc => ?_⟩
      walk_at "rd"
      refine ⟨by walk_at "sz", fun d nd => ?_⟩
      exact begun_end ⟨lo, hi, hm, hf⟩ B ((pn4.up sm).mono (by omega)) (kp.tr (Keep.same sm)) q nb nc nd
theorem ok_step1 {f C aW cS cR : Addr} {fd : FuncData} (F : Fun K "_law_step" "_law_step" s__law_step f fd) (T : TxtB K mg C aW)
    (bd_Blend_and : KR.OwnBD P w K mg base (L2.CX P w) 8 C .BitAnd ["self", "other"] (spBin C cR kAnd fAnd)) (bd_Blend_or : KR.OwnBD P w K mg base (L2.CX P w) 8 C .BitOr ["self", "other"] (spBin C cR kOr fOr)) (bd_Blend_xor : KR.OwnBD P w K mg base (L2.CX P w) 8 C .BitXor ["self", "other"] (spBin C cR kXor fXor))
    (br_Blend_and : KR.OwnBR P w K mg base (L2.CX P w) 8 C .BitAnd ["self", "other"] (spBin C cR kAnd fAnd)) (br_Blend_or : KR.OwnBR P w K mg base (L2.CX P w) 8 C .BitOr ["self", "other"] (spBin C cR kOr fOr)) (br_Blend_xor : KR.OwnBR P w K mg base (L2.CX P w) 8 C .BitXor ["self", "other"] (spBin C cR kXor fXor))
    (bd_Blend_shl : KR.OwnBD P w K mg base (L2.CX P w) 9 C .LShift ["self", "other"] (spShl C cS)) (bd_Blend_shr : KR.OwnBD P w K mg base (L2.CX P w) 9 C .RShift ["self", "other"] (spShr C cS)) (u_Blend : OwnU P w K mg base CX0 8 C ["self"] (spInv C))
    (in_Blend_and : OwnIn P w K mg base (L2.CX P w) 8 C .BitAnd ["self", "other"] (spBin C cR kAnd fAnd)) (in_Blend_or : OwnIn P w K mg base (L2.CX P w) 8 C .BitOr ["self", "other"] (spBin C cR kOr fOr)) (in_Blend_shl : OwnIn P w K mg base (L2.CX P w) 9 C .LShift ["self", "other"] (spShl C cS))
    (c__law_word : KB.Callee P w K mg base CX0 2 "_law_word" ["_law_pen_here", "_law_width"] spWord) (c__law_draw : KB.Callee P w K mg base CX0 1 "_law_draw" ["_law_pen_here", "_law_many"] spDraw) : FnOk P w K mg base CX0 10 f fd ["_law_pen_here", "_law_blend"] (spStep C) := by
  refine F.ok sc__law_step (fun vs H Q E h => ?_) (fun cdv A outer s H vs Q E hr h => ?_)
  · obtain ⟨pen, pc, x, w, k, ts, rfl, _⟩ := h
    rfl
  · obtain ⟨pen, pc, x, w, k, ts, rfl, ⟨s0, m0, f0, M, hap⟩, okts, pn, q⟩ := h
    have w3 := M.1.w3
    have wl := w3.le
    have wp := w3.pow
    have fl0 := M.1.fl
    refine ⟨_, (pss_cons (ps_set (i := 2) sc__law_step.nd rfl (by first | exact Or.inl rfl | exact Or.inr rfl) (pe_fld (pv 1) rfl))
 (pss_cons (ps_set (i := 3) sc__law_step.nd rfl (by first | exact Or.inl rfl | exact Or.inr rfl) (pe_callC c__law_word (hr.mono (by decide)) (by rfl) pass0 (pa_cons (pv 0) (pa_cons (pv 2) pa_nil))))
 (pss_cons (ps_set (i := 4) sc__law_step.nd rfl (by first | exact Or.inl rfl | exact Or.inr rfl) (pe_ix ix_list (pe_lst (pa_cons pe_int (pa_cons pe_int (pa_cons pe_int (pa_cons (pv 2) (pa_cons (pe_callC c__law_draw (hr.mono (by decide)) (by rfl) pass0 (pa_cons (pv 0) (pa_cons (pe_op op_add (pv 2) pe_int) pa_nil))) (pa_cons (pe_callC c__law_draw (hr.mono (by decide)) (by rfl) pass0 (pa_cons (pv 0) (pa_cons pe_int pa_nil))) pa_nil))))))) (pe_callC c__law_draw (hr.mono (by decide)) (by rfl) pass0 (pa_cons (pv 0) (pa_cons pe_int pa_nil))) (fun _ _ => rfl)))
 (pss_cons (ps_set (i := 5) sc__law_step.nd rfl (by first | exact Or.inl rfl | exact Or.inr rfl) (pe_callC c__law_draw (hr.mono (by decide)) (by rfl) pass0 (pa_cons (pv 0) (pa_cons pe_int pa_nil))))
 (pss_cons (ps_if (pt_cmpR op_lt (pv 5) pe_int (nomark _)) (pss_one (ps_ret (pe_tup (pa_cons (pe_ifExp (pt_cmpR op_eq (pv 5) pe_int (nomark _)) (pe_op (KR.op_binD bd_Blend_and (hr.mono (by decide)) passL) (pv 1) (pv 3)) (pe_op (KR.op_binR br_Blend_and (hr.mono (by decide)) passL) (pv 3) (pv 1))) (pa_cons (pe_tup (pa_cons pe_str (pa_cons (pv 3) pa_nil))) pa_nil)))))
 pss_nil)
 (pss_cons (ps_if (pt_cmpR op_lt (pv 5) pe_int (nomark _)) (pss_one (ps_ret (pe_tup (pa_cons (pe_ifExp (pt_cmpR op_eq (pv 5) pe_int (nomark _)) (pe_op (KR.op_binD bd_Blend_or (hr.mono (by decide)) passL) (pv 1) (pv 3)) (pe_op (KR.op_binR br_Blend_or (hr.mono (by decide)) passL) (pv 3) (pv 1))) (pa_cons (pe_tup (pa_cons pe_str (pa_cons (pv 3) pa_nil))) pa_nil)))))
 pss_nil)
 (pss_cons (ps_if (pt_cmpR op_lt (pv 5) pe_int (nomark _)) (pss_one (ps_ret (pe_tup (pa_cons (pe_ifExp (pt_cmpR op_eq (pv 5) pe_int (nomark _)) (pe_op (KR.op_binD bd_Blend_xor (hr.mono (by decide)) passL) (pv 1) (pv 3)) (pe_op (KR.op_binR br_Blend_xor (hr.mono (by decide)) passL) (pv 3) (pv 1))) (pa_cons (pe_tup (pa_cons pe_str (pa_cons (pv 3) pa_nil))) pa_nil)))))
 pss_nil)
 (pss_cons (ps_if (pt_cmpR op_eq (pv 5) pe_int (nomark _)) (pss_one (ps_ret (pe_tup (pa_cons (pe_un (KW.un_invO u_Blend (hr.mono (by decide)) pass0) (pv 1)) (pa_cons (pe_tup (pa_cons pe_str (pa_cons pe_int pa_nil))) pa_nil)))))
 pss_nil)
 (pss_cons (ps_if (pt_cmpR op_eq (pv 5) pe_int (nomark _)) (pss_one (ps_ret (pe_tup (pa_cons (pe_op (KR.op_binD bd_Blend_shl (hr.mono (by decide)) passL) (pv 1) (pv 4)) (pa_cons (pe_tup (pa_cons pe_str (pa_cons (pv 4) pa_nil))) pa_nil)))))
 pss_nil)
 (pss_cons (ps_if (pt_cmpR op_eq (pv 5) pe_int (nomark _)) (pss_one (ps_ret (pe_tup (pa_cons (pe_op (KR.op_binD bd_Blend_shr (hr.mono (by decide)) passL) (pv 1) (pv 4)) (pa_cons (pe_tup (pa_cons pe_str (pa_cons (pe_op op_sub pe_int (pv 4)) pa_nil))) pa_nil)))))
 pss_nil)
 (pss_cons (ps_if (pt_cmpR op_eq (pv 5) pe_int (nomark _)) (pss_cons (ps_aug (i := 1) sc__law_step.nd rfl (by first | exact Or.inl rfl | exact Or.inr rfl) (pv 3) (KW.ip_own in_Blend_and (hr.mono (by decide)) passL))
 (pss_one (ps_ret (pe_tup (pa_cons (pv 1) (pa_cons (pe_tup (pa_cons pe_str (pa_cons (pv 3) pa_nil))) pa_nil))))))
 pss_nil)
 (pss_cons (ps_if (pt_cmpR op_eq (pv 5) pe_int (nomark _)) (pss_cons (ps_aug (i := 1) sc__law_step.nd rfl (by first | exact Or.inl rfl | exact Or.inr rfl) (pv 4) (KW.ip_own in_Blend_shl (hr.mono (by decide)) passL))
 (pss_one (ps_ret (pe_tup (pa_cons (pv 1) (pa_cons (pe_tup (pa_cons pe_str (pa_cons (pv 4) pa_nil))) pa_nil))))))
 pss_nil)
 (pss_cons (ps_aug (i := 1) sc__law_step.nd rfl (by first | exact Or.inl rfl | exact Or.inr rfl) (pv 3) (KW.ip_own in_Blend_or (hr.mono (by decide)) passL))
 (pss_one (ps_ret (pe_tup (pa_cons (pv 1) (pa_cons (pe_tup (pa_cons pe_str (pa_cons (pv 3) pa_nil))) pa_nil)))))))))))))))))), at_start (σ := [some (.ref pen), some (.ref x), none, none, none, none]) rfl ?_⟩
    try dsimp only [cx_K]
    have cl := T.cl; have nw := T.n_width
    obtain ⟨dx0, hx0⟩ := id M.2
    walk_at "rd"
    refine ⟨pen, pc, w, k + 13, rfl, w3, pn, fun n H1 hn pn1 kp1 => ?_⟩
    walk_at "rd"
    refine ⟨pen, pc, (w : Int) + 1, k + 12, rfl, by omega, by omega, pn1, fun r1 H2 a1 b1 pn2 kp2 => ?_⟩
    walk_at "rd"
    refine ⟨pen, pc, 9, k + 11, rfl, by decide, by decide, pn2, fun r2 H3 a2 b2 pn3 kp3 => ?_⟩
    walk_at "rd"
    refine ⟨by walk_at "sz", fun l nl => ?_⟩
    walk_at "rd"
    refine ⟨pen, pc, 6, k + 10, rfl, by decide, by decide, pn3.up (same_new nl), fun r3 H4 a3 b3 pn4 kp4 => ?_⟩
    have hl := kp4 _ _ upd_same (pn3.ne nl)
    have kp := ((kp1.tr kp2).tr kp3).tr ((Keep.same (same_new nl)).tr kp4)
    obtain ⟨N, hN, at1⟩ := atI_map (xs := [0, 1, 4, (w : Int), r1, r2]) (g := V.int) a3 b3
    refine r_ixL (xs := [0, 1, 4, (w : Int), r1, r2].map V.int) (SqL.of hl) at1 ?_
    have hN0 : 0 ≤ N ∧ N ≤ w := by
      simp only [List.mem_cons, List.not_mem_nil, or_false] at hN
      rcases hN with rfl | rfl | rfl | rfl | rfl | rfl <;> omega
    obtain ⟨j, rfl⟩ : ∃ j : Nat, N = (j : Int) := ⟨N.toNat, by omega⟩
    have hj : j ≤ w := by omega
    replace M := BlendAt.sn M (kp.sn pn)
    clear kp1 kp2 kp3 kp4 hl hN at1 nl pn1 pn2 pn3 a1 b1 a2 b2 hN0 hx0
    obtain ⟨dx0, hx0⟩ := id M.2
    walk_at "rd"
    refine ⟨pen, pc, 12, k + 9, rfl, by decide, by decide, pn4, fun r5 H5 a5 b5 pn5 kp5 => ?_⟩
    replace M := BlendAt.sn M (kp5.sn pn4)
    replace kp := kp.tr kp5
    clear kp5 pn4 hx0
    obtain ⟨dx0, hx0⟩ := id M.2
    replace pn5 := pn5.mono (show k ≤ k + 9 by omega)
    change MadeAt C H5 x w s0 m0 f0 at M
    have eAnd : ∀ v, v < 2 ^ w → KBL.ap w (KBL.shiftN w s0 m0) (kAnd w (KBL.keepN w s0 m0) n) (fAnd w f0 n) v = doneS w (KBL.ap w s0 m0 f0 v) (.and n) := fun v _ => KBL.ap_and ..
    have eOr : ∀ v, v < 2 ^ w → KBL.ap w (KBL.shiftN w s0 m0) (kOr w (KBL.keepN w s0 m0) n) (fOr w f0 n) v = doneS w (KBL.ap w s0 m0 f0 v) (.or n) := fun v _ => KBL.ap_or
    have eXor : ∀ v, v < 2 ^ w → KBL.ap w (KBL.shiftN w s0 m0) (kXor w (KBL.keepN w s0 m0) n) (fXor w f0 n) v = doneS w (KBL.ap w s0 m0 f0 v) (.xor n) := fun v _ => KBL.ap_xor ..
    have eInv : ∀ v, v < 2 ^ w → KBL.ap w (KBL.shiftN w s0 m0) (KBL.keepN w s0 m0) (f0 ^^^ KBL.onesN w) v = doneS w (KBL.ap w s0 m0 f0 v) .inv := fun v _ => KBL.ap_xor ..
    have mv : ∀ (H' : Hp) (x' : Addr) (z : Int), MadeAt C H' x' w (KBL.movT w (KBL.shiftN w s0 m0) z (KBL.keepN w s0 m0)) (KBL.shN w (KBL.keepN w s0 m0) z) (KBL.shN w f0 z) → Does C H' x' w (ts ++ [.mov z]) := fun H' x' z M' =>
      ⟨_, _, _, M', fun v hv => by rw [doneN_snoc, ← hap v hv]; exact KBL.ap_move fl0 hv⟩
    walk_at "rd"
    refine r_ite2 (fun h => ?_) (fun h => ?_)
    · walk_at "rd"
      refine r_ite2 (fun g => ?_) (fun g => ?_)
      · walk_at "rd"
        refine ⟨x, dx0, _, .sc (.int n), rfl, hx0, rfl, sp_bin M hn fun H6 x6 M6 s6 => ?_⟩
        walk_at "rd"
        refine ⟨by walk_at "sz", fun c nc => ?_⟩
        walk_at "rd"
        refine ⟨by walk_at "sz", fun d nd => ?_⟩
        exact step_end (t := .and n) hn (fun _ => rfl) (does_bin hap M6 eAnd) (pn5.up s6) (kp.tr (Keep.same s6)) q nc nd
      · walk_at "rd"
        refine ⟨x, dx0, _, .sc (.int n), rfl, hx0, rfl, sp_bin M hn fun H6 x6 M6 s6 => ?_⟩
        walk_at "rd"
        refine ⟨by walk_at "sz", fun c nc => ?_⟩
        walk_at "rd"
        refine ⟨by walk_at "sz", fun d nd => ?_⟩
        exact step_end (t := .and n) hn (fun _ => rfl) (does_bin hap M6 eAnd) (pn5.up s6) (kp.tr (Keep.same s6)) q nc nd
    walk_at "rd"
    refine r_ite2 (fun h => ?_) (fun h => ?_)
    · walk_at "rd"
      refine r_ite2 (fun g => ?_) (fun g => ?_)
      · walk_at "rd"
        refine ⟨x, dx0, _, .sc (.int n), rfl, hx0, rfl, sp_bin M hn fun H6 x6 M6 s6 => ?_⟩
        walk_at "rd"
        refine ⟨by walk_at "sz", fun c nc => ?_⟩
        walk_at "rd"
        refine ⟨by walk_at "sz", fun d nd => ?_⟩
        exact step_end (t := .or n) hn (fun _ => rfl) (does_bin hap M6 eOr) (pn5.up s6) (kp.tr (Keep.same s6)) q nc nd
      · walk_at "rd"
        refine ⟨x, dx0, _, .sc (.int n), rfl, hx0, rfl, sp_bin M hn fun H6 x6 M6 s6 => ?_⟩
        walk_at "rd"
        refine ⟨by walk_at "sz", fun c nc => ?_⟩
        walk_at "rd"
        refine ⟨by walk_at "sz", fun d nd => ?_⟩
        exact step_end (t := .or n) hn (fun _ => rfl) (does_bin hap M6 eOr) (pn5.up s6) (kp.tr (Keep.same s6)) q nc nd
    walk_at "rd"
    refine r_ite2 (fun h => ?_) (fun h => ?_)
    · walk_at "rd"
      refine r_ite2 (fun g => ?_) (fun g => ?_)
      · walk_at "rd"
        refine ⟨x, dx0, _, .sc (.int n), rfl, hx0, rfl, sp_bin M hn fun H6 x6 M6 s6 => ?_⟩
        walk_at "rd"
        refine ⟨by walk_at "sz", fun c nc => ?_⟩
        walk_at "rd"
        refine ⟨by walk_at "sz", fun d nd => ?_⟩
        exact step_end (t := .xor n) hn (fun _ => rfl) (does_bin hap M6 eXor) (pn5.up s6) (kp.tr (Keep.same s6)) q nc nd
      · walk_at "rd"
        refine ⟨x, dx0, _, .sc (.int n), rfl, hx0, rfl, sp_bin M hn fun H6 x6 M6 s6 => ?_⟩
        walk_at "rd"
        refine ⟨by walk_at "sz", fun c nc => ?_⟩
        walk_at "rd"
        refine ⟨by walk_at "sz", fun d nd => ?_⟩
        exact step_end (t := .xor n) hn (fun _ => rfl) (does_bin hap M6 eXor) (pn5.up s6) (kp.tr (Keep.same s6)) q nc nd
    walk_at "rd"
    refine r_ite2 (fun h => ?_) (fun h => ?_)
    · walk_at "rd"
      refine ⟨x, dx0, _, rfl, hx0, x, w, _, _, f0, rfl, M, fun H6 x6 M6 s6 => ?_⟩
      walk_at "rd"
      refine ⟨by walk_at "sz", fun c nc => ?_⟩
      walk_at "rd"
      refine ⟨by walk_at "sz", fun d nd => ?_⟩
      exact step_end (t := .inv) trivial (fun _ => rfl) (does_bin hap M6 eInv) (pn5.up s6) (kp.tr (Keep.same s6)) q nc nd
    walk_at "rd"
    refine r_ite2 (fun h => ?_) (fun h => ?_)
    · walk_at "rd"
      refine ⟨x, dx0, _, .sc (.int j), rfl, hx0, rfl, sp_shl M hj fun H6 x6 M6 s6 => ?_⟩
      walk_at "rd"
      refine ⟨by walk_at "sz", fun c nc => ?_⟩
      walk_at "rd"
      refine ⟨by walk_at "sz", fun d nd => ?_⟩
      exact step_end (t := .mov j) ⟨by omega, by omega⟩ (fun _ => rfl) (mv _ _ _ M6) (pn5.up s6) (kp.tr (Keep.same s6)) q nc nd
    walk_at "rd"
    refine r_ite2 (fun h => ?_) (fun h => ?_)
    · walk_at "rd"
      refine ⟨x, dx0, _, .sc (.int j), rfl, hx0, rfl, sp_shr M hj fun H6 x6 M6 s6 => ?_⟩
      walk_at "rd"
      refine ⟨by walk_at "sz", fun c nc => ?_⟩
      walk_at "rd"
      refine ⟨by walk_at "sz", fun d nd => ?_⟩
      exact step_end (t := .mov (0 - j)) ⟨by omega, by omega⟩ (fun _ => rfl) (mv _ _ _ M6) (pn5.up s6) (kp.tr (Keep.same s6)) q nc nd
    walk_at "rd"
    refine r_ite2 (fun h => ?_) (fun h => ?_)
    · walk_at "rd"
      refine ⟨.ref x, rfl, ?_⟩
      walk_at "rd"
      refine ⟨x, dx0, _, _, rfl, hx0, rfl, sp_bin M hn fun H6 x6 M6 s6 => ?_⟩
      walk_at "rd"
      refine ⟨by walk_at "sz", fun c nc => ?_⟩
      walk_at "rd"
      refine ⟨by walk_at "sz", fun d nd => ?_⟩
      exact step_end (t := .and n) hn (fun _ => rfl) (does_bin hap M6 eAnd) (pn5.up s6) (kp.tr (Keep.same s6)) q nc nd
    walk_at "rd"
    refine r_ite2 (fun h => ?_) (fun h => ?_)
    · walk_at "rd"
      refine ⟨.ref x, rfl, ?_⟩
      walk_at "rd"
      refine ⟨x, dx0, _, _, rfl, hx0, rfl, sp_shl M hj fun H6 x6 M6 s6 => ?_⟩
      walk_at "rd"
      refine ⟨by walk_at "sz", fun c nc => ?_⟩
      walk_at "rd"
      refine ⟨by walk_at "sz", fun d nd => ?_⟩
      exact step_end (t := .mov j) ⟨by omega, by omega⟩ (fun _ => rfl) (mv _ _ _ M6) (pn5.up s6) (kp.tr (Keep.same s6)) q nc nd
    walk_at "rd"
    refine ⟨.ref x, rfl, ?_⟩
    walk_at "rd"
    refine ⟨x, dx0, _, _, rfl, hx0, rfl, sp_bin M hn fun H6 x6 M6 s6 => ?_⟩
    walk_at "rd"
    refine ⟨by walk_at "sz", fun c nc => ?_⟩
    walk_at "rd"
    refine ⟨by walk_at "sz", fun d nd => ?_⟩
    exact step_end (t := .or n) hn (fun _ => rfl) (does_bin hap M6 eOr) (pn5.up s6) (kp.tr (Keep.same s6)) q nc nd
end
end K02


namespace K02
open PySem L2 KB KO KY KV KW
theorem range_one {p : Nat} : ∀ n : Nat, p < n → (List.range n).filter (fun q => decide (q = p)) = [p]
  | 0, h => absurd h (by omega)
  | n + 1, h => by
    rw [List.range_succ, List.filter_append]
    by_cases e : p = n
    · subst e
      have z : (List.range p).filter (fun q => decide (q = p)) = [] := by
        rw [List.filter_eq_nil_iff]
        intro q m y
        have := List.mem_range.mp m
        simp at y
        omega
      rw [z, List.filter_cons, if_pos (by simp)]
      rfl
    · rw [range_one n (by omega), List.filter_cons, if_neg (by simp; omega)]
      rfl
/-- the places that a column has -/
def placesOf (w col : Nat) : List Nat := (List.range w).filter (col.testBit ·)
theorem places_cases {w : Nat} {s : Int} {m f i : Nat} (hi : i < w) :
    (placesOf w (KBL.ap w s m f (2 ^ i) ^^^ f) = [] ∧ ∀ p, KBL.src w s m p = true → (p : Int) - s ≠ i) ∨ ∃ p, placesOf w (KBL.ap w s m f (2 ^ i) ^^^ f) = [p] ∧ KBL.src w s m p = true ∧ (p : Int) - s = i := by
  unfold placesOf
  by_cases h : ∃ p, KBL.src w s m p = true ∧ (p : Int) - s = i
  · obtain ⟨p, h1, h2⟩ := h
    refine .inr ⟨p, ?_, h1, h2⟩
    rw [← range_one w (KBL.src_of h1).1]
    refine List.filter_congr fun q _ => ?_
    rw [KBL.column hi]
    by_cases e : q = p
    · subst e
      rw [h1, decide_eq_true h2, decide_eq_true rfl]
      rfl
    · rw [decide_eq_false e, decide_eq_false (show ¬ (q : Int) - s = i by omega), Bool.and_false]
  · refine .inl ⟨?_, fun p h1 h2 => h ⟨p, h1, h2⟩⟩
    rw [List.filter_eq_nil_iff]
    intro q _ z
    rw [KBL.column hi] at z
    simp only [Bool.and_eq_true, decide_eq_true_eq] at z
    exact h ⟨q, z.1, z.2⟩
theorem map_zero (l : List Nat) : (l.map fun (p : Nat) => V.int (0 + (p : Int))) = l.map fun (p : Nat) => V.int (p : Int) := by
  refine List.map_congr_left fun p _ => ?_
  rw [show (0 : Int) + (p : Int) = p by omega]
/-- the keep that is found so far -/
def KeepTo (w : Nat) (s : Int) (m i k : Nat) : Prop := ∀ p, k.testBit p = (KBL.src w s m p && decide ((p : Int) - s < i))
theorem KeepTo.zero (w : Nat) (s : Int) (m : Nat) : KeepTo w s m 0 0 := fun p => by
  rw [Nat.zero_testBit]
  by_cases h : KBL.src w s m p = true
  · have := KBL.src_of h
    rw [h, decide_eq_false (by omega)]
    rfl
  · rw [Bool.eq_false_iff.mpr h]
    rfl
theorem KeepTo.same {w : Nat} {s : Int} {m i k : Nat} (h : KeepTo w s m i k) (n : ∀ p, KBL.src w s m p = true → (p : Int) - s ≠ i) : KeepTo w s m (i + 1) k := fun p => by
  rw [h p]
  by_cases z : KBL.src w s m p = true
  · have := n p z
    congr 1
    exact decide_eq_decide.mpr (by omega)
  · rw [Bool.eq_false_iff.mpr z]
    rfl
theorem KeepTo.next {w : Nat} {s : Int} {m f i k : Nat} (hi : i < w) (h : KeepTo w s m i k) : KeepTo w s m (i + 1) (k ||| (KBL.ap w s m f (2 ^ i) ^^^ f)) := fun p => by
  rw [Nat.testBit_or, h p, KBL.column hi]
  by_cases z : KBL.src w s m p = true
  · rw [z, Bool.true_and, Bool.true_and, Bool.true_and]
    by_cases a : (p : Int) - s < i
    · rw [decide_eq_true a, decide_eq_true (show (p : Int) - s < ((i + 1 : Nat) : Int) by omega)]
      rfl
    · by_cases b : (p : Int) - s = i
      · rw [decide_eq_true b, decide_eq_true (show (p : Int) - s < ((i + 1 : Nat) : Int) by omega), Bool.or_true]
      · rw [decide_eq_false a, decide_eq_false b, decide_eq_false (show ¬ (p : Int) - s < ((i + 1 : Nat) : Int) by omega)]
        rfl
  · rw [Bool.eq_false_iff.mpr z]
    rfl
theorem KeepTo.last {w : Nat} {s : Int} {m k : Nat} (h : KeepTo w s m w k) : k = KBL.keepN w s m := KBL.bits_ext fun p => by
  rw [h p, KBL.bit_keep]
  by_cases z : KBL.src w s m p = true
  · have := KBL.src_of z
    rw [z, decide_eq_true (by omega)]
    rfl
  · rw [Bool.eq_false_iff.mpr z]
    rfl
def spNormal : Sp := fun vs H Q _ => ∃ (w : Nat) (l : Addr) (ys : List V) (ts : List Stp) (s : Int) (m f : Nat), vs = [.int w, .ref l] ∧ W3 w ∧ H l = some (.lst ys) ∧ StepsAt H ys ts ∧ (∀ t ∈ ts, t.ok w) ∧ f < 2 ^ w ∧ (∀ v, v < 2 ^ w → KBL.ap w s m f v = doneN w ts v) ∧
  ∀ (a p : Addr) (zs : List V) H', Same H H' → H' a = some (.tup [.int (KBL.shiftN w s m), .int (KBL.keepN w s m : Nat), .int (f : Nat), .ref p]) → H' p = some (.lst zs) → PairsAt H' zs (KBL.srcs w s m) → Q (.ref a) H'

section
variable {P : Program} {w : World} {K : PySem.W.Frag} {mg : Str → Option Value} {base : Heap}
theorem ok_normal {f : Addr} {fd : FuncData} (F : Fun K "_law_normal" "_law_normal" s__law_normal f fd) (T : Txt mg) (c__law_done : KB.Callee P w K mg base CX0 3 "_law_done" ["_law_width", "_law_steps", "_law_value"] spDone) : FnOk P w K mg base CX0 4 f fd ["_law_width", "_law_steps"] spNormal := by
  refine F.ok sc__law_normal (fun vs H Q E h => ?_) (fun cdv A outer s H vs Q E hr h => ?_)
  · obtain ⟨w, l, ys, ts, s, m, f, rfl, _⟩ := h
    rfl
  · obtain ⟨w, l, ys, ts, s, m, f, rfl, w3, hl, sa, ok, hf, hap, q⟩ := h
    have wl := w3.le
    have wp := w3.pow
    refine ⟨_, (pss_cons (ps_set (i := 2) sc__law_normal.nd rfl (by first | exact Or.inl rfl | exact Or.inr rfl) (pe_callC c__law_done (hr.mono (by decide)) (by rfl) pass0 (pa_cons (pv 0) (pa_cons (pv 1) (pa_cons pe_int pa_nil)))))
 (pss_cons (ps_par3 (i := 3) (j := 4) (l := 5) (by rfl) sc__law_normal.nd rfl rfl rfl (by decide) (by decide) (by decide) rfl rfl rfl (pa_cons pe_int (pa_cons pe_int (pa_cons (pe_lst pa_nil) pa_nil))) (by rfl))
 (pss_cons (ps_for PassesOwn.never rfl (pi_range1 rfl T.z_range (pa_cons (pv 0) pa_nil)) (pg_name (i := 6) sc__law_normal.nd rfl (by first | exact Or.inl rfl | exact Or.inr rfl))
 (pss_cons (ps_set (i := 7) sc__law_normal.nd rfl (by first | exact Or.inl rfl | exact Or.inr rfl) (pe_op op_xor (pe_callC c__law_done (hr.mono (by decide)) (by rfl) pass0 (pa_cons (pv 0) (pa_cons (pv 1) (pa_cons (pe_op op_shl pe_int (pv 6)) pa_nil)))) (pv 2)))
 (pss_cons (ps_setLc (i := 8) (own := [("_law_place", 9)]) (g := gName 9) (by rfl) sc__law_normal.nd rfl rfl (sw_true rfl rfl rfl (by decide +kernel)) (pi_range1 rfl T.z_range (pa_cons (pv 0) pa_nil)) (blkOk_by (own := [("_law_place", 9)]) (N := ["_law_width", "_law_steps", "_law_flip", "_law_keep", "_law_shift", "_law_sources", "_law_source", "_law_column", "_law_places", "_law_place"]) (sc := defScope s__law_normal) (by decide +kernel)) (fun _ _ _ _ _ => (pg_name (i := 9) sc__law_normal.nd rfl (by first | exact Or.inl rfl | exact Or.inr rfl))) (fun _ _ _ _ _ => (pts_one (pt_cmpR op_eq (pe_op op_and (pe_op op_shr (pv 7) (pv 9)) pe_int) pe_int (nomark _)))) (fun _ _ _ _ _ => (pv 9)))
 (pss_cons (ps_if (pt_cmpR op_gt (pe_callB call_len_seq (by rfl) T.z_len (by decide +kernel) (pa_cons (pv 8) pa_nil)) pe_int (nomark _)) (pss_one (ps_ret pe_non))
 pss_nil)
 (pss_one (ps_if (pt_cmpR (op_neD hr.units) (pv 8) (pe_lst pa_nil) (nomark _)) (pss_cons (ps_par (i := 3) (j := 4) (by rfl) sc__law_normal.nd rfl rfl (by decide) rfl rfl (pa_cons (pe_op op_or (pv 3) (pv 7)) (pa_cons (pe_op op_sub (pe_ix ix_list (pv 8) pe_int (fun _ _ => rfl)) (pv 6)) pa_nil)) (by rfl))
 (pss_one (ps_expr (pe_bm PySem.F.plainAttrs_list PySem.F.slot_list_append PySem.F.type_list_append mt_append (pv 5) (pa_cons (pe_tup (pa_cons (pe_ix ix_list (pv 8) pe_int (fun _ _ => rfl)) (pa_cons (pv 6) pa_nil))) pa_nil)))))
 pss_nil))))))
 (pss_one (ps_ret (pe_tup (pa_cons (pv 4) (pa_cons (pv 3) (pa_cons (pv 2) (pa_cons (pe_callB cr_sortedPO (by rfl) T.z_sorted (by decide +kernel) (pa_cons (pv 5) pa_nil)) pa_nil)))))))))), at_start (σ := [some (.int w), some (.ref l), none, none, none, none, none, none, none, none]) rfl ?_⟩
    try dsimp only [cx_K]
    walk_at "rd"
    refine ⟨w, 0, l, ys, ts, rfl, w3, hl, sa, ok, Nat.two_pow_pos w, fun H1 s1 => ?_⟩
    rw [← hap 0 (Nat.two_pow_pos w), KBL.ap_zero]
    walk_at "rd"
    refine r_par3 ?_
    walk_at "rd"
    refine ⟨by walk_at "sz", fun S nS => ?_⟩
    have nS0 := s1.free nS
    walk_at "rd"
    refine ⟨_, _, _, rfl, ?_⟩
    walk_at "rd"
    refine ⟨by omega, by omega, ?_⟩
    rw [show ((w : Int)).toNat = w by omega]
    refine forW (walk_range (lo := 0) (n := w)) (fun i σ' H' => ∃ (k : Nat) (zs : List V) (y6 y7 y8 y9 : Option V), σ' = [some (.int w), some (.ref l), some (.int (f : Nat)), some (.int (k : Nat)), some (.int (if k = 0 then 0 else s)), some (.ref S), y6, y7, y8, y9] ∧ Same H H' ∧ H' S = some (.lst zs) ∧ PairsAt H' zs (KBL.srcsTo w s m i) ∧ KeepTo w s m i k ∧ zs.length ≤ i)
      ⟨0, [], none, none, none, none, rfl, s1.trans (same_new nS), upd_same, by rw [KBL.srcsTo_zero]; exact PairsAt.nil, KeepTo.zero w s m, Nat.le_refl _⟩ (fun _ _ _ _ _ => trivial) ?_ ?_
    · rintro i x σ' _ H2 hi ⟨k, zs, y6, y7, y8, y9, rfl, s2, eS, pa, kt, lz⟩ ⟨rfl, rfl⟩
      have hp2 : 2 ^ i < 2 ^ w := KBL.two_lt hi
      walk_at "rd"
      refine ⟨w, 2 ^ i, l, ys, ts, ?_, w3, s2 _ _ hl, sa.sn (KD.SameN.of s2), ok, hp2, fun H3 s3 => ?_⟩
      · rw [show (0 + (i : Int)).toNat = i by omega, Int.one_mul, Int.natCast_pow]
        rfl
      rw [← hap _ hp2]
      walk_at "rd"
      rw [KBL.bXor]
      have pc := places_cases (w := w) (s := s) (m := m) (f := f) hi
      have kn := kt.next (f := f) hi
      have colLt : KBL.ap w s m f (2 ^ i) ^^^ f < 2 ^ w := Nat.xor_lt_two_pow (KBL.ap_lt hf hp2) hf
      generalize KBL.ap w s m f (2 ^ i) ^^^ f = col at pc kn colLt
      refine ⟨by omega, by omega, ?_⟩
      rw [show ((w : Int)).toNat = w by omega]
      have eS3 := s3 _ _ eS
      have pa3 := pa.up s3
      have s23 := s2.trans s3
      clear s2 s3 eS pa
      refine lc_all (walk_range (lo := 0) (n := w)) (j := 9) (fun p => .int (0 + (p : Int))) (fun p => col.testBit p) (fun p => .int (0 + (p : Int))) (by omega) (fun p H x H' hp y => ⟨y.1, y.2⟩) (fun _ _ => trivial) (fun x => rfl) (fun p H' hp sm QT qt => ?_) (fun p H' hp _ sm Q' q' => ?_) (fun D H4 nD s4 eD => ?_)
      · walk_at "rd"
        rw [show (0 + (p : Int)).toNat = p by omega, KBL.bit_one, show V.int 1 = V.int ((1 : Nat) : Int) from rfl, nat_int]
        have z := qt _ (Same.refl _)
        have e0 : decide (KBL.b2n (col.testBit p) = 1) = col.testBit p := by cases col.testBit p <;> rfl
        rw [e0]
        exact z
      · walk_at "rd"
        exact q' _ (Same.refl _)
      have eG : Evl.given w (fun p => col.testBit p) (fun p => V.int (0 + (p : Int))) = (placesOf w col).map fun (p : Nat) => V.int (p : Int) := map_zero _
      rw [eG] at eD
      have eS4 := s4 _ _ eS3
      have pa4 := pa3.up s4
      have s24 := s23.trans s4
      clear s23 s4 eS3 pa3 nD
      walk_at "rd"
      rcases pc with ⟨e0, no⟩ | ⟨p0, e1, h1, h2⟩
      · rw [e0] at eD ⊢
        refine r_iteF (by simp) ?_
        walk_at "rd"
        refine ⟨by walk_at "sz", fun c nc => ?_⟩
        refine r_neInts (ns := []) (ms := []) (SqL.of (upd_new nc eD)) (SqL.of upd_same) ?_
        walk_at "rd"
        refine r_iteNF rfl ?_
        walk_at "rd"
        exact ⟨k, zs, _, _, _, _, rfl, s24.trans (same_new nc), upd_new nc eS4, by rw [KBL.srcsTo_same no]; exact pa4.up (same_new nc), kt.same no, by omega⟩
      · rw [e1] at eD ⊢
        refine r_iteF (by simp) ?_
        walk_at "rd"
        refine ⟨by walk_at "sz", fun c nc => ?_⟩
        refine r_neInts (ns := [(p0 : Int)]) (ms := []) (SqL.of (upd_new nc eD)) (SqL.of upd_same) ?_
        have s25 := s24.trans (same_new (o := .lst []) nc)
        have eD5 := upd_new (o := .lst []) nc eD
        have eS5 := upd_new (o := .lst []) nc eS4
        have pa5 := pa4.up (same_new (o := .lst []) nc)
        generalize upd H4 c (.lst []) = H5 at *
        clear s24 eD eS4 pa4 nc
        walk_at "rd"
        refine r_iteNT (by simp) ?_
        walk_at "rd"
        rw [bOrN]
        refine ⟨_, _, rfl, ?_⟩
        walk_at "rd"
        refine ⟨by walk_at "sz", fun t nt => ?_⟩
        have eS6 : upd H5 t (.tup [.int (p0 : Nat), .int (0 + (i : Int))]) S = some (.lst zs) := upd_new nt eS5
        walk_at "rd"
        refine r_append eS6 (small1000' (by omega)) ?_
        have kn0 : k ||| col ≠ 0 := fun z => by
          have y := kn p0
          rw [z, Nat.zero_testBit, h1, decide_eq_true (by omega)] at y
          cases y
        rw [show ((p0 : Nat) : Int) - (0 + (i : Int)) = if k ||| col = 0 then 0 else s by rw [if_neg kn0]; omega]
        refine ⟨k ||| col, zs ++ [.ref t], _, _, _, _, rfl, same_mut (s25.trans (same_new nt)) nS0, upd_same, ?_, kn, by simp; omega⟩
        · rw [KBL.srcsTo_next h2 h1]
          refine ((pa5.up (same_new nt)).snoc (a := t) ?_).sn (SameN.lset eS6)
          rw [upd_same, show (0 : Int) + (i : Int) = i by omega]
    · rintro σ' H2 ⟨k, zs, y6, y7, y8, y9, rfl, s2, eS, pa, kt, lz⟩
      have ek := kt.last
      rw [KBL.srcsTo_all] at pa
      walk_at "rd"
      refine r_sortedUp (SqL.of eS) pa (KBL.srcs_asc w s m) fun p np => ?_
      walk_at "rd"
      refine ⟨by walk_at "sz", fun a na => ?_⟩
      have s3 := (same_new (o := .lst zs) np)
      refine q a p zs _ ((s2.trans s3).trans (same_new na)) ?_ (upd_new na upd_same) ((pa.up s3).up (same_new na))
      rw [upd_same]
      unfold KBL.shiftN
      rw [ek]
end
end K02


namespace K02
open PySem L2 KB KO KY KV KW
theorem small32 {w n : Nat} (h : W3 w) (hn : n < 2 ^ w) : (n : Int).natAbs < 10 ^ 12 := by
  have := h.pow
  have : (4294967296 : Nat) < 10 ^ 12 := by decide
  omega
theorem join4 (a b c d : Str) : ("Blend(" : Str) ++ Txt.join ", " [a, b, c, d] ++ ")" = Str.empty ++ "Blend(" ++ a ++ ", " ++ b ++ ", " ++ c ++ ", " ++ d ++ ")" := by
  rw [TL.join_eq]
  show ("Blend(" : Str) ++ (a ++ ", " ++ (b ++ ", " ++ (c ++ ", " ++ d))) ++ ")" = _
  refine str_ext ?_
  simp only [append_toList, List.append_assoc]
  rfl
def spRight (C : Addr) : Sp := fun vs H Q _ => ∃ (x l wl : Addr) (w : Nat) (ys : List V) (ts : List Stp) (ws : List Nat), vs = [.ref x, .int w, .ref l, .ref wl] ∧ Does C H x w ts ∧ H l = some (.lst ys) ∧ StepsAt H ys ts ∧ (∀ t ∈ ts, t.ok w) ∧ H wl = some (.lst (ws.map fun (n : Nat) => V.int (n : Int))) ∧ (∀ n ∈ ws, n < 2 ^ w) ∧ ws.length ≤ 10 ∧ ∀ H', Same H H' → Q (.bl true) H'

section
variable {P : Program} {w : World} {K : PySem.W.Frag} {mg : Str → Option Value} {base : Heap}
theorem ok_right {f C aW cR : Addr} {fd : FuncData} (F : Fun K "_law_right" "_law_right" s__law_right f fd) (T : TxtB K mg C aW) (call_Blend : KC.OwnC P w K mg base (L2.CX P w) 6 C ["self", "value"] (spBCall C cR)) (p_Blend_is_constant : OwnP P w K mg base 1 C "is_constant" ["self"] (spIsC C)) (g_Blend_sources : KU.CalleeGM P w K mg base 1 C "sources" ["self"] (spSrc C)) (repr_Blend : OwnM P w K mg base 1 C "__repr__" ["self"] (spBRepr C))
    (c__law_top : KB.Callee P w K mg base CX0 1 "_law_top" ["_law_width"] spTop) (c__law_done : KB.Callee P w K mg base CX0 3 "_law_done" ["_law_width", "_law_steps", "_law_value"] spDone) (c__law_normal : KB.Callee P w K mg base CX0 4 "_law_normal" ["_law_width", "_law_steps"] spNormal) : KG.FnG P w K mg base CX0 8 f fd ["_law_blend", "_law_width", "_law_steps", "_law_words"] (spRight C) := by
  refine KG.fun_okG F sc__law_right (fun vs H Q E h => ?_) (fun cdv A outer s H vs Q E hr fr h => ?_)
  · obtain ⟨x, l, wl, w, ys, ts, ws, rfl, _⟩ := h
    rfl
  · obtain ⟨x, l, wl, w, ys, ts, ws, rfl, ⟨s0, m0, f0, M, hap⟩, hl, sa, ok, hw, wlt, wn, q⟩ := h
    have w3 := M.1.w3
    have wb := w3.le
    have wp := w3.pow
    have fl0 := M.1.fl
    refine ⟨_, (pss_cons (ps_for PassesOwn.never rfl (pi_list (pe_op op_cat (pe_op op_cat (pe_lst (pa_cons pe_int (pa_cons (pe_callC c__law_top (hr.mono (by decide)) (by rfl) pass0 (pa_cons (pv 1) pa_nil)) pa_nil))) (pe_lc (own := [("_law_k", 5)]) (g := gName 5) (tt := tYes) (by rfl) sc__law_right.nd (pi_range1 rfl T.z_range (pa_cons (pv 1) pa_nil)) (blkOk_by (own := [("_law_k", 5)]) (N := ["_law_blend", "_law_width", "_law_steps", "_law_words", "_law_value", "_law_k", "_law_shift", "_law_keep", "_law_flip", "_law_sources", "_law_one"]) (sc := defScope s__law_right) (by decide +kernel)) (fun _ _ _ _ _ => (pg_name (i := 5) sc__law_right.nd rfl (by first | exact Or.inl rfl | exact Or.inr rfl))) (fun _ _ _ _ _ => pts_nil) (fun _ _ _ _ _ => (pe_op op_shl pe_int (pv 5))))) (pv 3))) (pg_name (i := 4) sc__law_right.nd rfl (by first | exact Or.inl rfl | exact Or.inr rfl))
 (pss_one (ps_if (pt_cmpR op_ne (pe_callB (KG.call_reprD fr hr) (by rfl) T.z_repr (by decide +kernel) (pa_cons (KC.pe_callO call_Blend (hr.mono (by decide)) passL (pv 0) (pa_cons (pv 4) pa_nil)) pa_nil)) (pe_callB (KG.call_reprD fr hr) (by rfl) T.z_repr (by decide +kernel) (pa_cons (pe_callC c__law_done (hr.mono (by decide)) (by rfl) pass0 (pa_cons (pv 1) (pa_cons (pv 2) (pa_cons (pv 4) pa_nil)))) pa_nil)) (nomark _)) (pss_one (ps_ret pe_bl))
 pss_nil)))
 (pss_cons (ps_asg (pe_callC c__law_normal (hr.mono (by decide)) (by rfl) pass0 (pa_cons (pv 1) (pa_cons (pv 2) pa_nil))) (pg_tup rfl (pgs_cons (pg_name (i := 6) sc__law_right.nd rfl (by first | exact Or.inl rfl | exact Or.inr rfl)) (pgs_cons (pg_name (i := 7) sc__law_right.nd rfl (by first | exact Or.inl rfl | exact Or.inr rfl)) (pgs_cons (pg_name (i := 8) sc__law_right.nd rfl (by first | exact Or.inl rfl | exact Or.inr rfl)) (pgs_cons (pg_name (i := 9) sc__law_right.nd rfl (by first | exact Or.inl rfl | exact Or.inr rfl)) pgs_nil))))))
 (pss_cons (ps_if (pt_cmpR op_ne (pe_callB (KG.call_reprD fr hr) (by rfl) T.z_repr (by decide +kernel) (pa_cons (pe_tup (pa_cons (pe_fld (pv 0) rfl) (pa_cons (pe_fld (pv 0) rfl) (pa_cons (pe_fld (pv 0) rfl) (pa_cons (pe_fld (pv 0) rfl) pa_nil))))) pa_nil)) (pe_callB (KG.call_reprD fr hr) (by rfl) T.z_repr (by decide +kernel) (pa_cons (pe_tup (pa_cons (pv 1) (pa_cons (pv 6) (pa_cons (pv 7) (pa_cons (pv 8) pa_nil))))) pa_nil)) (nomark _)) (pss_one (ps_ret pe_bl))
 pss_nil)
 (pss_cons (ps_if (PW.pt (pw_or (pt_cmpR op_ne (pe_callB (KG.call_reprD fr hr) (by rfl) T.z_repr (by decide +kernel) (pa_cons (KW.pe_propO p_Blend_is_constant (pv 0) (hr.mono (by decide))) pa_nil)) (pe_callB (KG.call_reprD fr hr) (by rfl) T.z_repr (by decide +kernel) (pa_cons (pe_cmpR op_eq (pv 7) pe_int (nomark _)) pa_nil)) (nomark _)) (pw_or1 (pt_cmpR op_ne (pe_callB (KG.call_reprD fr hr) (by rfl) T.z_repr (by decide +kernel) (pa_cons (KU.pe_listM g_Blend_sources (pv 0) (hr.mono (by decide)) (by rfl) T.z_list) pa_nil)) (pe_callB (KG.call_reprD fr hr) (by rfl) T.z_repr (by decide +kernel) (pa_cons (pv 9) pa_nil)) (nomark _))))) (pss_one (ps_ret pe_bl))
 pss_nil)
 (pss_one (ps_ret (pe_cmpR op_eq (pe_callB (KC.call_reprO repr_Blend (hr.mono (by decide))) (by rfl) T.z_repr (by decide +kernel) (pa_cons (pv 0) pa_nil)) (pe_op op_add_str (pe_op op_add_str pe_str (pe_join pe_str (pe_lc (own := [("_law_one", 10)]) (g := gName 10) (tt := tYes) (by rfl) sc__law_right.nd (pi_tup (pe_tup (pa_cons (pv 1) (pa_cons (pv 6) (pa_cons (pv 7) (pa_cons (pv 8) pa_nil)))))) (blkOk_by (own := [("_law_one", 10)]) (N := ["_law_blend", "_law_width", "_law_steps", "_law_words", "_law_value", "_law_k", "_law_shift", "_law_keep", "_law_flip", "_law_sources", "_law_one"]) (sc := defScope s__law_right) (by decide +kernel)) (fun _ _ _ _ _ => (pg_name (i := 10) sc__law_right.nd rfl (by first | exact Or.inl rfl | exact Or.inr rfl))) (fun _ _ _ _ _ => pts_nil) (fun _ _ _ _ _ => (pe_callTy call_str_int (by rfl) T.z_str (by decide +kernel) (pa_cons (pv 10) pa_nil)))))) pe_str) (nomark _)))))))), at_start (σ := [some (.ref x), some (.int w), some (.ref l), some (.ref wl), none, none, none, none, none, none, none]) rfl ?_⟩
    try dsimp only [cx_K]
    walk_at "rd"
    refine ⟨w, rfl, w3, fun H1 s1 => ?_⟩
    walk_at "rd"
    refine ⟨by walk_at "sz", fun c1 n1 => ?_⟩
    walk_at "rd"
    refine ⟨by omega, by omega, ?_⟩
    rw [show ((w : Int)).toNat = w by omega]
    have s2 := s1.trans (same_new (o := .lst [.int 0, .int (KBL.onesN w : Nat)]) n1)
    have ec1 : (upd H1 c1 (.lst [.int 0, .int (KBL.onesN w : Nat)])) c1 = some (.lst [.int 0, .int (KBL.onesN w : Nat)]) := upd_same
    generalize upd H1 c1 (.lst [.int 0, .int (KBL.onesN w : Nat)]) = H2 at *
    refine lc_all (walk_range (lo := 0) (n := w)) (j := 5) (fun p => .int (0 + (p : Int))) (fun _ => true) (fun p => .int ((2 ^ p : Nat) : Int)) (by omega) (fun p H x H' hp y => ⟨y.1, y.2⟩) (fun _ _ => trivial) (fun x => rfl) (fun p H' hp sm QT qt => qt _ (Same.refl _)) (fun p H' hp _ sm Q' q' => ?_) (fun D H3 nD s3 eD => ?_)
    · walk_at "rd"
      rw [show (0 + (p : Int)).toNat = p by omega, Int.one_mul]
      have z := q' _ (Same.refl _)
      rw [Int.natCast_pow] at z
      exact z
    have eG : Evl.given w (fun _ => true) (fun p => V.int ((2 ^ p : Nat) : Int)) = ((List.range w).map (2 ^ ·)).map fun (n : Nat) => V.int (n : Int) := by
      unfold Evl.given
      rw [List.filter_eq_self.mpr (fun _ _ => rfl), List.map_map]
      rfl
    rw [eG] at eD
    have s4 := s2.trans s3
    replace ec1 := s3 _ _ ec1
    clear s1 s2 s3 n1 nD
    refine ⟨c1, D, _, _, rfl, rfl, ec1, eD, Nat.le_of_lt (small1000' (by simp; omega)), fun e1 ne1 => ?_⟩
    walk_at "rd"
    refine ⟨e1, wl, _, _, rfl, rfl, upd_same, upd_new ne1 (s4 _ _ hw), Nat.le_of_lt (small1000' (by simp; omega)), fun e2 ne2 => ?_⟩
    have evs : ([V.int 0, .int (KBL.onesN w : Nat)] ++ ((List.range w).map (2 ^ ·)).map fun (n : Nat) => V.int (n : Int)) ++ (ws.map fun (n : Nat) => V.int (n : Int)) = ([0, KBL.onesN w] ++ (List.range w).map (2 ^ ·) ++ ws).map fun (n : Nat) => V.int (n : Int) := by
      rw [List.map_append, List.map_append]
      rfl
    have vlt : ∀ n ∈ [0, KBL.onesN w] ++ (List.range w).map (2 ^ ·) ++ ws, n < 2 ^ w := by
      intro n hn
      rcases List.mem_append.mp hn with hn | hn
      · rcases List.mem_append.mp hn with hn | hn
        · rcases List.mem_cons.mp hn with rfl | hn
          · exact Nat.two_pow_pos w
          · rw [List.mem_singleton.mp hn]
            exact KBL.ones_lt w
        · obtain ⟨p, hp, rfl⟩ := List.mem_map.mp hn
          exact KBL.two_lt (List.mem_range.mp hp)
      · exact wlt n hn
    rw [evs]
    generalize [0, KBL.onesN w] ++ (List.range w).map (2 ^ ·) ++ ws = vals at vlt ⊢
    have s5 := (s4.trans (same_new ne1)).trans (same_new (o := .lst (vals.map fun (n : Nat) => V.int (n : Int))) ne2)
    rw [evs] at *
    refine ⟨e2, rfl, ⟨_, SqL.of upd_same⟩, ?_⟩
    have ev : (upd (upd H3 e1 (.lst ([V.int 0, .int (KBL.onesN w : Nat)] ++ ((List.range w).map (2 ^ ·)).map fun (n : Nat) => V.int (n : Int)))) e2 (.lst (vals.map fun (n : Nat) => V.int (n : Int)))) e2 = some (.lst (vals.map fun (n : Nat) => V.int (n : Int))) := upd_same
    generalize upd (upd H3 e1 (.lst ([V.int 0, .int (KBL.onesN w : Nat)] ++ ((List.range w).map (2 ^ ·)).map fun (n : Nat) => V.int (n : Int)))) e2 (.lst (vals.map fun (n : Nat) => V.int (n : Int))) = H5 at *
    clear s4 ne1 ne2 ec1 eD
    refine forW (walk_list (xs := vals.map fun (n : Nat) => V.int (n : Int))) (fun i σ' H' => ∃ y4 y5, σ' = [some (.ref x), some (.int w), some (.ref l), some (.ref wl), y4, y5, none, none, none, none, none] ∧ Same H5 H') ⟨_, _, rfl, Same.refl _⟩ (fun i σ' H' _ ⟨_, _, _, sm⟩ => SqL.of (sm _ _ ev)) ?_ ?_
    · rintro i xv σ' H6 H6' hi ⟨y4, y5, rfl, sm⟩ ⟨rfl, hx⟩
      rw [List.getElem?_map] at hx
      obtain ⟨v, hv, rfl⟩ := Option.map_eq_some_iff.mp hx
      have lt := vlt v (List.mem_of_getElem? hv)
      have s6 := s5.trans sm
      have M6 := BlendAt.up M s6
      obtain ⟨dx, hxx⟩ := id M6.2
      walk_at "rd"
      refine KC.r_callO ?_
      walk_at "rd"
      refine ⟨x, dx, _, rfl, hxx, ?_⟩
      walk_at "rd"
      refine ⟨hxx, x, w, _, _, f0, .int (v : Nat), .sc (.int v), rfl, M6, rfl, fun n hn e => ?_, fun z => ?_⟩
      rotate_left
      · rw [isWord_nat lt] at z; cases z
      obtain rfl : v = n := by cases e; rfl
      rw [KBL.ap_made, hap v lt]
      try walk_at "rd"
      have dl := doneN_lt ts v ok lt
      try walk_at "rd"
      refine r_reprS (.int _) (Sm.int (small32 w3 dl)) (by decide) (by decide) ?_
      walk_at "rd"
      refine ⟨w, v, l, ys, ts, rfl, w3, s6 _ _ hl, sa.sn (KD.SameN.of s6), ok, lt, fun H7 s7 => ?_⟩
      try walk_at "rd"
      refine r_reprS (.int _) (Sm.int (small32 w3 dl)) (by decide) (by decide) ?_
      generalize (PyData.int (doneN w ts v : Nat)).shown = sh
      walk_at "rd"
      refine r_iteNF rfl ?_
      walk_at "rd"
      exact ⟨_, _, rfl, sm.trans s7⟩
    · rintro σ' H6 ⟨y4, y5, rfl, sm⟩
      have s6 := s5.trans sm
      clear sm s5 ev vlt evs
      walk_at "rd"
      refine ⟨w, l, ys, ts, s0, m0, f0, rfl, w3, s6 _ _ hl, sa.sn (KD.SameN.of s6), ok, fl0, hap, fun a p zs H7 s7 ea ep pa => ?_⟩
      have s8 := s6.trans s7
      have M7 := BlendAt.up M s8
      obtain ⟨nm, dx, hxx⟩ := id M7
      have nl := nm.lo; have nh := nm.hi; have nk := nm.kl
      have hsr := KBL.srcsK_made w s0 m0
      generalize KBL.shiftN w s0 m0 = sn at *
      generalize KBL.keepN w s0 m0 = kn at *
      refine r_gtup (SqT.of ea) rfl ?_
      have cl := T.cl; have n1 := T.n_width; have n2 := T.n_shift; have n3 := T.n_keep; have n4 := T.n_flip
      walk_at "rd"
      refine ⟨by walk_at "sz", fun c nc => ?_⟩
      have sd : Sm 1000 1 (.tuple [.int (w : Nat), .int sn, .int (kn : Nat), .int (f0 : Nat)]) := by
        refine (Sm.tuple (n := 13) (k := 0) fun y my => ?_).mono (by simp) (Nat.le_refl _)
        simp only [List.mem_cons, List.not_mem_nil, or_false] at my
        have : (32 : Nat) < 10 ^ 12 := by decide
        rcases my with rfl | rfl | rfl | rfl
        · exact Sm.int (by omega)
        · exact Sm.int (by omega)
        · exact Sm.int (small32 w3 nk)
        · exact Sm.int (small32 w3 fl0)
      try walk_at "rd"
      refine r_reprS (d := .tuple [.int (w : Nat), .int sn, .int (kn : Nat), .int (f0 : Nat)]) (.tup (SqT.of upd_same) (.cons (.int _) (.cons (.int _) (.cons (.int _) (.cons (.int _) .nil))))) sd (by decide) (by decide) ?_
      walk_at "rd"
      refine ⟨by walk_at "sz", fun c' nc' => ?_⟩
      try walk_at "rd"
      refine r_reprS (d := .tuple [.int (w : Nat), .int sn, .int (kn : Nat), .int (f0 : Nat)]) (.tup (SqT.of upd_same) (.cons (.int _) (.cons (.int _) (.cons (.int _) (.cons (.int _) .nil))))) sd (by decide) (by decide) ?_
      generalize (PyData.tuple [.int (w : Nat), .int sn, .int (kn : Nat), .int (f0 : Nat)]).shown = sh
      walk_at "rd"
      refine r_iteNF rfl ?_
      have s9 := (same_new (o := .tup [.int (w : Nat), .int sn, .int (kn : Nat), .int (f0 : Nat)]) nc).trans (same_new (o := .tup [.int (w : Nat), .int sn, .int (kn : Nat), .int (f0 : Nat)]) nc')
      have s10 := s8.trans s9
      have M9 := BlendAt.up M7 s9
      have hx9 := s9 _ _ hxx
      have ep9 := s9 _ _ ep
      have pa9 := pa.up s9
      generalize upd (upd H7 c _) c' _ = H9 at *
      clear s8 s9 s7 s6 M7 hxx ep pa nc nc' ea sd
      walk_at "rd"
      refine KW.r_prop ?_
      walk_at "rd"
      refine ⟨x, dx, _, rfl, hx9, x, w, _, _, f0, rfl, M9, ?_⟩
      try walk_at "rd"
      refine r_reprS (.bl _) Sm.bool (by decide) (by decide) ?_
      walk_at "rd"
      rw [show V.int 0 = V.int ((0 : Nat) : Int) from rfl, nat_int]
      try walk_at "rd"
      refine r_reprS (.bl _) Sm.bool (by decide) (by decide) ?_
      generalize (PyData.bool (decide (kn = 0))).shown = sh2
      walk_at "rd"
      refine r_iteNF rfl ?_
      walk_at "rd"
      refine KU.r_listM ?_
      walk_at "rd"
      refine ⟨x, dx, _, rfl, hx9, rfl, x, w, _, _, f0, rfl, M9, fun zs2 H10 s11 pz p2 np2 => ?_⟩
      rw [hsr] at pz
      have sml : Sm 70003 2 (dPairs (KBL.srcs w s0 m0)) := sm_pairs (fun r hr => by
        obtain ⟨a1, a2, a3, a4⟩ := KBL.srcs_small wb.2 r hr
        have : (32 : Nat) < 10 ^ 12 := by decide
        exact ⟨by omega, by omega⟩) (by have := KBL.srcs_len w s0 m0; omega)
      try walk_at "rd"
      refine r_reprS (.lst (SqL.of upd_same) (pz.up (same_new np2)).dp) sml (by decide) (by decide) ?_
      have s12 := s11.trans (same_new (o := .lst zs2) np2)
      have M12 := BlendAt.up M9 s12
      have hx12 := s12 _ _ hx9
      have ep12 := s12 _ _ ep9
      have pa12 := pa9.up s12
      have s13 := s10.trans s12
      generalize upd H10 p2 (.lst zs2) = H12 at *
      clear s12 s11 s10 M9 hx9 ep9 pa9 pz np2
      try walk_at "rd"
      refine r_reprS (.lst (SqL.of ep12) pa12.dp) sml (by decide) (by decide) ?_
      generalize (dPairs (KBL.srcs w s0 m0)).shown = sh3
      walk_at "rd"
      refine r_iteNF rfl ?_
      walk_at "rd"
      refine ⟨x, dx, _, rfl, hx12, x, w, _, _, f0, rfl, M12, _, rfl, ?_⟩
      walk_at "rd"
      refine ⟨by walk_at "sz", fun d nd => ?_⟩
      walk_at "rd"
      refine ⟨d, rfl, ⟨_, SqT.of upd_same⟩, ?_⟩
      obtain ⟨b1, b2, b3, b4⟩ := numBits nm
      have l1 := KBL.num_len b1; have l2 := KBL.num_len b2; have l3 := KBL.num_len b3; have l4 := KBL.num_len b4
      have s14 := s13.trans (same_new (o := .tup [.int (w : Nat), .int sn, .int (kn : Nat), .int (f0 : Nat)]) nd)
      have ed : (upd H12 d (.tup [.int (w : Nat), .int sn, .int (kn : Nat), .int (f0 : Nat)])) d = some (.tup (([(w : Int), sn, (kn : Int), (f0 : Int)] : List Int).map V.int)) := upd_same
      generalize upd H12 d (.tup [.int (w : Nat), .int sn, .int (kn : Nat), .int (f0 : Nat)]) = H13 at *
      refine lc_all (walk_tup (xs := ([(w : Int), sn, (kn : Int), (f0 : Int)] : List Int).map V.int)) (j := 10) (fun i => .int (([(w : Int), sn, (kn : Int), (f0 : Int)] : List Int).getD i 0)) (fun _ => true) (fun i => .str (Str.ofString (toString (([(w : Int), sn, (kn : Int), (f0 : Int)] : List Int).getD i 0)))) (by simp) (fun i H x H' hi y => YAt_get hi y) (fun H' s => SqT.of (s _ _ ed)) (fun x => rfl) (fun i H' hi s QT q => q _ (Same.refl _)) (fun i H' hi _ sm Q' q' => ?_) (fun D H14 nD s15 eD => ?_)
      · walk_at "rd"
        refine ⟨?_, q' _ (Same.refl _)⟩
        have hi4 : i < 4 := by simpa using hi
        match i, hi4 with
        | 0, _ => exact b1
        | 1, _ => exact b2
        | 2, _ => exact b3
        | 3, _ => exact b4
        | i + 4, h => omega
      rw [show (([(w : Int), sn, (kn : Int), (f0 : Int)] : List Int).map V.int).length = ([(w : Int), sn, (kn : Int), (f0 : Int)] : List Int).length from List.length_map _, given_map ([(w : Int), sn, (kn : Int), (f0 : Int)] : List Int) 0 (fun i => V.str (Str.ofString (toString i)))] at eD
      have ej : Txt.join ", " [Str.ofString (toString (w : Int)), Str.ofString (toString sn), Str.ofString (toString (kn : Int)), Str.ofString (toString (f0 : Int))] = Str.ofString (toString (w : Int)) ++ ", " ++ (Str.ofString (toString sn) ++ ", " ++ (Str.ofString (toString (kn : Int)) ++ ", " ++ Str.ofString (toString (f0 : Int)))) := by
        rw [TL.join_eq]
        rfl
      have c0 : (Str.ofString ", ").length = 2 := by decide +kernel
      have c1 : (Str.ofString "Blend(").length = 6 := by decide +kernel
      have c2 : (Str.ofString ")").length = 1 := by decide +kernel
      have sl2 : 10000 ≤ sizeLine := by decide
      have lj : (Txt.join ", " [Str.ofString (toString (w : Int)), Str.ofString (toString sn), Str.ofString (toString (kn : Int)), Str.ofString (toString (f0 : Int))]).length ≤ 7700 := by
        rw [ej]
        simp only [Str.length_append]
        omega
      refine ⟨", ", D, [Str.ofString (toString (w : Int)), Str.ofString (toString sn), Str.ofString (toString (kn : Int)), Str.ofString (toString (f0 : Int))], rfl, rfl, .inl (SqL.of eD), ?_, _, _, rfl, rfl, ?_, ?_⟩
      · simp only [List.map_cons, List.map_nil, List.sum_cons, List.sum_nil, List.length_cons, List.length_nil]
        omega
      · omega
      walk_at "rd"
      refine ⟨_, _, rfl, rfl, ?_, ?_⟩
      · simp only [Str.length_append]
        omega
      walk_at "rd"
      rw [join4]
      have z := q _ (s14.trans s15)
      rw [← decide_eq_true (show V.str (KBL.bText (w : Nat) sn (kn : Nat) (f0 : Nat)) = V.str (KBL.bText (w : Nat) sn (kn : Nat) (f0 : Nat)) from rfl)] at z
      exact z
end
end K02


namespace K02
open PySem L2 KB KO KY KV KW
theorem StepsAt.up {H H' : Hp} {ys : List V} {ts : List Stp} (h : StepsAt H ys ts) (s : Same H H') : StepsAt H' ys ts := h.sn (KD.SameN.of s)
theorem w3_pick {n : Int} (h : n ∈ ([8, 16, 32, 8] : List Int)) : ∃ w : Nat, W3 w ∧ n = w := by
  simp only [List.mem_cons, List.not_mem_nil, or_false] at h
  rcases h with rfl | rfl | rfl | rfl
  · exact ⟨8, .inl rfl, rfl⟩
  · exact ⟨16, .inr (.inl rfl), rfl⟩
  · exact ⟨32, .inr (.inr rfl), rfl⟩
  · exact ⟨8, .inl rfl, rfl⟩
def spLaw (K : PySem.W.Frag) : Sp := fun vs H Q _ => ∃ (a : Addr) (ns : List Int), vs = [.ref a] ∧ SqL K H a (ns.map V.int) ∧ ns.length ≤ 63 ∧ ∀ H', Q (.bl true) H'

section
variable {P : Program} {w : World} {K : PySem.W.Frag} {mg : Str → Option Value} {base : Heap}
theorem ok_law {f C : Addr} {fd : FuncData} (F : Fun K "law" "law" s_law f fd) (T : Txt mg)
    (c__law_begun : KB.Callee P w K mg base CX0 9 "_law_begun" ["_law_pen_here", "_law_width"] (spBegun C)) (c__law_step : KB.Callee P w K mg base CX0 10 "_law_step" ["_law_pen_here", "_law_blend"] (spStep C)) (c__law_right : KG.CalleeG P w K mg base CX0 8 "_law_right" ["_law_blend", "_law_width", "_law_steps", "_law_words"] (spRight C))
    (c__law_word : KB.Callee P w K mg base CX0 2 "_law_word" ["_law_pen_here", "_law_width"] spWord) (c__law_draw : KB.Callee P w K mg base CX0 1 "_law_draw" ["_law_pen_here", "_law_many"] spDraw) (c__law_pen : KB.Callee P w K mg base CX0 1 "_law_pen" ["_law_script"] (spPen K)) : KG.FnG P w K mg base CX0 12 f fd ["_law_script"] (spLaw K) := by
  refine KG.fun_okG F sc_law (fun vs H Q E h => ?_) (fun cdv A outer s H vs Q E hr fr h => ?_)
  · obtain ⟨a, ns, rfl, _⟩ := h
    rfl
  · obtain ⟨a, ns, rfl, hS, hlen, q⟩ := h
    refine ⟨_, (pss_cons (ps_set (i := 1) sc_law.nd rfl (by first | exact Or.inl rfl | exact Or.inr rfl) (pe_callC c__law_pen (hr.mono (by decide)) (by rfl) pass0 (pa_cons (pv 0) pa_nil)))
 (pss_cons (ps_for PassesOwn.never rfl (pi_range1 rfl T.z_range (pa_cons pe_int pa_nil)) (pg_name (i := 2) sc_law.nd rfl (by first | exact Or.inl rfl | exact Or.inr rfl))
 (pss_cons (ps_set (i := 3) sc_law.nd rfl (by first | exact Or.inl rfl | exact Or.inr rfl) (pe_ix ix_list (pe_lst (pa_cons pe_int (pa_cons pe_int (pa_cons pe_int (pa_cons pe_int pa_nil))))) (pe_callC c__law_draw (hr.mono (by decide)) (by rfl) pass0 (pa_cons (pv 1) (pa_cons pe_int pa_nil))) (fun _ _ => rfl)))
 (pss_cons (ps_asg (pe_callC c__law_begun (hr.mono (by decide)) (by rfl) pass0 (pa_cons (pv 1) (pa_cons (pv 3) pa_nil))) (pg_tup rfl (pgs_cons (pg_name (i := 4) sc_law.nd rfl (by first | exact Or.inl rfl | exact Or.inr rfl)) (pgs_cons (pg_name (i := 5) sc_law.nd rfl (by first | exact Or.inl rfl | exact Or.inr rfl)) pgs_nil))))
 (pss_cons (ps_set (i := 6) sc_law.nd rfl (by first | exact Or.inl rfl | exact Or.inr rfl) (pe_lst (pa_cons (pv 5) pa_nil)))
 (pss_cons (ps_for PassesOwn.never rfl (pi_range1 rfl T.z_range (pa_cons (pe_callC c__law_draw (hr.mono (by decide)) (by rfl) pass0 (pa_cons (pv 1) (pa_cons pe_int pa_nil))) pa_nil)) (pg_name (i := 7) sc_law.nd rfl (by first | exact Or.inl rfl | exact Or.inr rfl))
 (pss_cons (ps_asg (pe_callC c__law_step (hr.mono (by decide)) (by rfl) pass0 (pa_cons (pv 1) (pa_cons (pv 4) pa_nil))) (pg_tup rfl (pgs_cons (pg_name (i := 4) sc_law.nd rfl (by first | exact Or.inl rfl | exact Or.inr rfl)) (pgs_cons (pg_name (i := 8) sc_law.nd rfl (by first | exact Or.inl rfl | exact Or.inr rfl)) pgs_nil))))
 (pss_one (ps_expr (pe_bm PySem.F.plainAttrs_list PySem.F.slot_list_append PySem.F.type_list_append mt_append (pv 6) (pa_cons (pv 8) pa_nil))))))
 (pss_cons (ps_setLc (i := 9) (own := [("_law_again", 7)]) (g := gName 7) (tt := tYes) (by rfl) sc_law.nd rfl rfl (sw_true rfl rfl rfl (by decide +kernel)) (pi_range1 rfl T.z_range (pa_cons pe_int pa_nil)) (blkOk_by (own := [("_law_again", 7)]) (N := ["_law_script", "_law_pen_here", "_law_turn", "_law_width", "_law_blend", "_law_first", "_law_steps", "_law_again", "_law_step_here", "_law_words"]) (sc := defScope s_law) (by decide +kernel)) (fun _ _ _ _ _ => (pg_name (i := 7) sc_law.nd rfl (by first | exact Or.inl rfl | exact Or.inr rfl))) (fun _ _ _ _ _ => pts_nil) (fun _ _ _ _ _ => (pe_callC c__law_word (hr.mono (by decide)) (by rfl) pass0 (pa_cons (pv 1) (pa_cons (pv 3) pa_nil)))))
 (pss_one (ps_if (pt_not (pt_val (KG.pe_callG c__law_right fr (hr.mono (by decide)) (by rfl) pass0 (pa_cons (pv 4) (pa_cons (pv 3) (pa_cons (pv 6) (pa_cons (pv 9) pa_nil))))))) (pss_one (ps_ret pe_bl))
 pss_nil))))))))
 (pss_one (ps_ret pe_bl)))), at_start (σ := [some (.ref a), none, none, none, none, none, none, none, none, none]) rfl ?_⟩
    try dsimp only [cx_K]
    walk_at "rd"
    refine ⟨a, ns, rfl, hS, hlen, fun H1 pen c s1 n1 n2 pn => ?_⟩
    walk_at "rd"
    refine ⟨by decide, by decide, ?_⟩
    refine forW (walk_range (lo := 0) (n := 2)) (fun i σ H' => ∃ y2 y3 y4 y5 y6 y7 y8 y9, σ = [some (.ref a), some (.ref pen), y2, y3, y4, y5, y6, y7, y8, y9] ∧ PenC H' pen c (1000 - 400 * i))
      ⟨_, _, _, _, _, _, _, _, rfl, pn.mono (by omega)⟩ (fun _ _ _ _ _ => trivial) ?_ ?_
    · rintro i x0 σ' _ H2 hi ⟨y2, y3, y4, y5, y6, y7, y8, y9, rfl, pn⟩ ⟨rfl, rfl⟩
      obtain ⟨B0, eB⟩ : ∃ B0, B0 = 1000 - 400 * (i + 1) := ⟨_, rfl⟩
      rw [← eB]
      replace pn := pn.mono (show B0 + 400 ≤ 1000 - 400 * i by omega)
      walk_at "rd"
      refine ⟨by walk_at "sz", fun lw nlw => ?_⟩
      walk_at "rd"
      refine ⟨pen, c, 4, B0 + 399, rfl, by decide, by decide, pn.up (same_new nlw), fun r H3 a3 b3 pn3 kp3 => ?_⟩
      have elw := kp3 _ _ upd_same (pn.ne nlw)
      obtain ⟨n, hn, at1⟩ := atI_map (xs := ([8, 16, 32, 8] : List Int)) (g := V.int) a3 b3
      refine r_ixL (xs := ([8, 16, 32, 8] : List Int).map V.int) (SqL.of elw) at1 ?_
      obtain ⟨w, w3, rfl⟩ := w3_pick hn
      clear hn at1 a3 b3 elw kp3 pn nlw
      walk_at "rd"
      refine ⟨pen, c, w, B0 + 379, rfl, w3, pn3, fun b x sv t H4 okt eb sb db pn4 kp4 => ?_⟩
      clear kp4 pn3
      refine r_gtup (SqT.of eb) rfl ?_
      walk_at "rd"
      refine ⟨by walk_at "sz", fun l nl => ?_⟩
      have npl := pn4.ne nl
      have npc := pn4.nec nl
      have sa0 : StepsAt (upd H4 l (.lst [sv])) [sv] [t] := by
        have z : StepsAt (upd H4 l (.lst [sv])) [] [] := ⟨rfl, fun i v t h _ => by simp at h⟩
        exact z.snoc (sb.up (same_new nl))
      have db0 := db.up (same_new (o := .lst [sv]) nl)
      have pn5 := pn4.up (same_new (o := .lst [sv]) nl)
      have el0 : (upd H4 l (.lst [sv])) l = some (.lst [sv]) := upd_same
      generalize upd H4 l (.lst [sv]) = H5 at *
      clear sb db pn4 nl eb
      walk_at "rd"
      refine ⟨pen, c, 15, B0 + 378, rfl, by decide, by decide, pn5, fun r2 H6 a6 b6 pn6 kp6 => ?_⟩
      walk_at "rd"
      refine ⟨by omega, by omega, ?_⟩
      have hr2 : r2.toNat ≤ 14 := by omega
      have sn6 := kp6.sn pn5
      refine forW (walk_range (lo := 0) (n := r2.toNat)) (fun j σ H' => ∃ x y5 y7 y8 y9 ys ts, σ = [some (.ref a), some (.ref pen), some (.int (0 + (i : Int))), some (.int w), some (.ref x), y5, some (.ref l), y7, y8, y9] ∧ PenC H' pen c (B0 + 378 - 20 * j) ∧ H' l = some (.lst ys) ∧ StepsAt H' ys ts ∧ Does C H' x w ts ∧ (∀ t ∈ ts, t.ok w) ∧ ys.length ≤ j + 1)
        ⟨_, _, _, _, _, [sv], [t], rfl, pn6, kp6 _ _ el0 npl, sa0.sn sn6, db0.sn sn6, (fun u m => by rw [List.mem_singleton.mp m]; exact okt), by simp⟩ (fun _ _ _ _ _ => trivial) ?_ ?_
      · rintro j z σ' _ H7 hj ⟨x7, y5', y7', y8', y9', ys, ts, rfl, pn7, el7, sa7, db7, ok7, ly⟩ ⟨rfl, rfl⟩
        walk_at "rd"
        refine ⟨pen, c, x7, w, B0 + 378 - 20 * (j + 1), ts, rfl, db7, ok7, pn7.mono (by omega), fun b x8 sv8 t8 H8 okt8 eb8 sb8 db8 pn8 kp8 => ?_⟩
        refine r_gtup (SqT.of eb8) rfl ?_
        have el8 := kp8 _ _ el7 npl
        have sa8 := sa7.sn (kp8.sn pn7)
        walk_at "rd"
        refine r_append el8 (small1000' (by omega)) ?_
        have sn9 := SameN.lset (ys := ys ++ [sv8]) el8
        exact ⟨_, _, _, _, _, ys ++ [sv8], ts ++ [t8], rfl, pn8.mut npl npc, upd_same, (sa8.sn sn9).snoc (sb8.sn sn9), db8.sn sn9, (fun u m => by
          rcases List.mem_append.mp m with m | m
          · exact ok7 u m
          · rw [List.mem_singleton.mp m]; exact okt8), by simp; omega⟩
      · rintro σ' H7 ⟨x7, y5', y7', y8', y9', ys, ts, rfl, pn7, el7, sa7, db7, ok7, ly⟩
        replace pn7 := pn7.mono (show B0 + 30 ≤ B0 + 378 - 20 * r2.toNat by omega)
        clear sa0 db0 pn5 el0 sn6 kp6 pn6
        walk_at "rd"
        refine ⟨by decide, by decide, ?_⟩
        refine lc_pen (walk_range (lo := 0) (n := 3)) (pen := pen) (c := c) (fun i v _ => ∃ n : Nat, n < 2 ^ w ∧ v = .int (n : Int)) (fun i => B0 + 30 - 7 * i) (by decide) pn7 (fun i v H H' r _ => r) (fun _ _ => trivial) (fun i x Ha Ha' N B hi kpa pna y qN => ?_) (fun D Hd zs nD kpd pnd eD ly hy => ?_)
        · obtain ⟨rfl, rfl⟩ := y
          walk_at "rd"
          refine ⟨rfl, KD.r_yes (iteT ?_)⟩
          walk_at "rd"
          refine ⟨pen, c, w, B0 + 30 - 7 * (i + 1), rfl, w3, pna.mono (by omega), fun n Hb hn pnb kpb => ?_⟩
          exact qN _ _ kpb pnb ⟨n, hn, rfl⟩
        obtain ⟨ws, rfl, lws, hws⟩ := choose_list (f := fun (n : Nat) => V.int (n : Int)) (Pr := fun _ n => n < 2 ^ w) zs hy
        have eld := kpd _ _ el7 npl
        have snd := kpd.sn pn7
        walk_at "rd"
        refine ⟨x7, l, D, w, ys, ts, ws, rfl, db7.sn snd, eld, sa7.sn snd, ok7, eD, fun n m => ?_, by omega, fun H9 s9 => ?_⟩
        · obtain ⟨i, hi, e⟩ := List.getElem_of_mem m
          exact hws i n (by rw [List.getElem?_eq_getElem hi, e])
        walk_at "rd"
        exact ⟨_, _, _, _, _, _, _, _, rfl, (pnd.up s9).mono (by omega)⟩
    · rintro σ' H2 ⟨y2, y3, y4, y5, y6, y7, y8, y9, rfl, pn⟩
      walk_at "rd"
      exact q _
end
end K02


namespace K02
open PySem L2 KB KO KY KV KW
abbrev s_I0 : Stmt := inClass (top 3) 0
abbrev s_I2 : Stmt := inClass (top 4) 0
abbrev s_I3 : Stmt := inClass (top 5) 0
theorem sqK {K : PySem.W.Frag} {a : Addr} {dd : Option Addr} {its : Array Value} {n : Nat} {sl : Array (Option Value)} {xs : List V} (h : K.lookup a = some ⟨.type "tuple", dd, .seq its n, sl⟩) (hz : its.size ≤ 100) (r : Vals xs its.toList) : ∀ H, SqT K H a xs :=
  fun _ => .inr ⟨_, its, n, h, rfl, rfl, Nat.le_trans hz (by decide), r⟩
theorem free_only {sc : Scope} {x : Str} (h : ∀ z ∈ sc.names, z.2 = .free → z.1 = x) : ∀ y, sc.names.lookup y = some .free → y = x := fun y e => h (y, .free) (PySem.mem_of_lookup e) rfl
theorem fnR_of {P : Program} {w : World} {K : PySem.W.Frag} {mg : Str → Option Value} {base : Heap} {CX : CXT} {k : Nat} {f : Addr} {fd : FuncData} {ps : List Str} {sp : Sp} (F : FnOk P w K mg base CX k f fd ps sp) (b : Binds K fd ps []) : FnR P w K mg base CX k f sp := fun A outer s H us vs Q E hr e0 r h => by
  have z := b s us (e0.mod.kin.keeps fun b o e => (e0.bs b o e).1) (by rw [List.append_nil, ← r.length]; exact F.len _ _ _ _ h)
  rw [List.append_nil] at z
  exact F.run A outer s H ⟨us, []⟩ us vs Q E hr e0 z r h
theorem all_mk {l : PySem.W.OpenLaw} {w : World} {K : PySem.W.Frag} {h : Heap} {mg : Str → Option Value} {fa C_Blend f_is_integer f_need_width f_ones f_is_word f_need_word f_shifted f_need_step f_Blend___init__ DT_Blend___init__ f_Blend_constant p_Blend_constant f_Blend_is_constant p_Blend_is_constant f_Blend___call__ f_Blend___and__ f_Blend___rand__ f_Blend___or__ f_Blend___ror__ f_Blend___xor__ f_Blend___rxor__ f_Blend___invert__ f_Blend___lshift__ f_Blend___rshift__ f_Blend___repr__ f_Blend_sources f_moved f__law_pen f__law_draw f__law_word f__law_top f__law_moved f__law_done f__law_begun f__law_step f__law_normal f__law_right f_law aW e0 e2 e3 cda0 ccell0 fI0 N_E0 cda2 ccell2 fI2 N_E2 cda3 ccell3 fI3 N_E3 : Addr} (X : K.In h) (G : h.Ns mainGlobals mg) (hfa : mg "law" = some (.ref fa))
    {od_is_integer an_is_integer : Option Addr} {sl_is_integer : Array (Option Value)} {oc_is_integer kV_is_integer dc_is_integer pm_is_integer cd_is_integer ct_is_integer : Value}
    {od_need_width an_need_width : Option Addr} {sl_need_width : Array (Option Value)} {oc_need_width kV_need_width dc_need_width pm_need_width cd_need_width ct_need_width : Value}
    {od_ones an_ones : Option Addr} {sl_ones : Array (Option Value)} {oc_ones kV_ones dc_ones pm_ones cd_ones ct_ones : Value}
    {od_is_word an_is_word : Option Addr} {sl_is_word : Array (Option Value)} {oc_is_word kV_is_word dc_is_word pm_is_word cd_is_word ct_is_word : Value}
    {od_need_word an_need_word : Option Addr} {sl_need_word : Array (Option Value)} {oc_need_word kV_need_word dc_need_word pm_need_word cd_need_word ct_need_word : Value}
    {od_shifted an_shifted : Option Addr} {sl_shifted : Array (Option Value)} {oc_shifted kV_shifted dc_shifted pm_shifted cd_shifted ct_shifted : Value}
    {od_need_step an_need_step : Option Addr} {sl_need_step : Array (Option Value)} {oc_need_step kV_need_step dc_need_step pm_need_step cd_need_step ct_need_step : Value}
    {od_Blend___init__ an_Blend___init__ : Option Addr} {sl_Blend___init__ : Array (Option Value)} {oc_Blend___init__ kV_Blend___init__ dc_Blend___init__ pm_Blend___init__ cd_Blend___init__ ct_Blend___init__ : Value}
    {dd_DT_Blend___init__ : Option Addr} {n_DT_Blend___init__ : Nat} {sl_DT_Blend___init__ : Array (Option Value)} {tk_Blend___init___0 tk_Blend___init___2 : Tok}
    {od_Blend_constant an_Blend_constant : Option Addr} {sl_Blend_constant : Array (Option Value)} {oc_Blend_constant kV_Blend_constant dc_Blend_constant pm_Blend_constant cd_Blend_constant ct_Blend_constant : Value}
    {rs_Blend_constant : List Value}
    {od_Blend_is_constant an_Blend_is_constant : Option Addr} {sl_Blend_is_constant : Array (Option Value)} {oc_Blend_is_constant kV_Blend_is_constant dc_Blend_is_constant pm_Blend_is_constant cd_Blend_is_constant ct_Blend_is_constant : Value}
    {rs_Blend_is_constant : List Value}
    {od_Blend___call__ an_Blend___call__ : Option Addr} {sl_Blend___call__ : Array (Option Value)} {oc_Blend___call__ kV_Blend___call__ dc_Blend___call__ pm_Blend___call__ cd_Blend___call__ ct_Blend___call__ : Value}
    {od_Blend___and__ an_Blend___and__ : Option Addr} {sl_Blend___and__ : Array (Option Value)} {oc_Blend___and__ kV_Blend___and__ dc_Blend___and__ pm_Blend___and__ cd_Blend___and__ ct_Blend___and__ : Value}
    {od_Blend___rand__ an_Blend___rand__ : Option Addr} {sl_Blend___rand__ : Array (Option Value)} {oc_Blend___rand__ kV_Blend___rand__ dc_Blend___rand__ pm_Blend___rand__ cd_Blend___rand__ ct_Blend___rand__ : Value}
    {od_Blend___or__ an_Blend___or__ : Option Addr} {sl_Blend___or__ : Array (Option Value)} {oc_Blend___or__ kV_Blend___or__ dc_Blend___or__ pm_Blend___or__ cd_Blend___or__ ct_Blend___or__ : Value}
    {od_Blend___ror__ an_Blend___ror__ : Option Addr} {sl_Blend___ror__ : Array (Option Value)} {oc_Blend___ror__ kV_Blend___ror__ dc_Blend___ror__ pm_Blend___ror__ cd_Blend___ror__ ct_Blend___ror__ : Value}
    {od_Blend___xor__ an_Blend___xor__ : Option Addr} {sl_Blend___xor__ : Array (Option Value)} {oc_Blend___xor__ kV_Blend___xor__ dc_Blend___xor__ pm_Blend___xor__ cd_Blend___xor__ ct_Blend___xor__ : Value}
    {od_Blend___rxor__ an_Blend___rxor__ : Option Addr} {sl_Blend___rxor__ : Array (Option Value)} {oc_Blend___rxor__ kV_Blend___rxor__ dc_Blend___rxor__ pm_Blend___rxor__ cd_Blend___rxor__ ct_Blend___rxor__ : Value}
    {od_Blend___invert__ an_Blend___invert__ : Option Addr} {sl_Blend___invert__ : Array (Option Value)} {oc_Blend___invert__ kV_Blend___invert__ dc_Blend___invert__ pm_Blend___invert__ cd_Blend___invert__ ct_Blend___invert__ : Value}
    {od_Blend___lshift__ an_Blend___lshift__ : Option Addr} {sl_Blend___lshift__ : Array (Option Value)} {oc_Blend___lshift__ kV_Blend___lshift__ dc_Blend___lshift__ pm_Blend___lshift__ cd_Blend___lshift__ ct_Blend___lshift__ : Value}
    {od_Blend___rshift__ an_Blend___rshift__ : Option Addr} {sl_Blend___rshift__ : Array (Option Value)} {oc_Blend___rshift__ kV_Blend___rshift__ dc_Blend___rshift__ pm_Blend___rshift__ cd_Blend___rshift__ ct_Blend___rshift__ : Value}
    {od_Blend___repr__ an_Blend___repr__ : Option Addr} {sl_Blend___repr__ : Array (Option Value)} {oc_Blend___repr__ kV_Blend___repr__ dc_Blend___repr__ pm_Blend___repr__ cd_Blend___repr__ ct_Blend___repr__ : Value}
    {od_Blend_sources an_Blend_sources : Option Addr} {sl_Blend_sources : Array (Option Value)} {oc_Blend_sources kV_Blend_sources dc_Blend_sources pm_Blend_sources cd_Blend_sources ct_Blend_sources : Value}
    {od_moved an_moved : Option Addr} {sl_moved : Array (Option Value)} {oc_moved kV_moved dc_moved pm_moved cd_moved ct_moved : Value}
    {od__law_pen an__law_pen : Option Addr} {sl__law_pen : Array (Option Value)} {oc__law_pen kV__law_pen dc__law_pen pm__law_pen cd__law_pen ct__law_pen : Value}
    {od__law_draw an__law_draw : Option Addr} {sl__law_draw : Array (Option Value)} {oc__law_draw kV__law_draw dc__law_draw pm__law_draw cd__law_draw ct__law_draw : Value}
    {od__law_word an__law_word : Option Addr} {sl__law_word : Array (Option Value)} {oc__law_word kV__law_word dc__law_word pm__law_word cd__law_word ct__law_word : Value}
    {od__law_top an__law_top : Option Addr} {sl__law_top : Array (Option Value)} {oc__law_top kV__law_top dc__law_top pm__law_top cd__law_top ct__law_top : Value}
    {od__law_moved an__law_moved : Option Addr} {sl__law_moved : Array (Option Value)} {oc__law_moved kV__law_moved dc__law_moved pm__law_moved cd__law_moved ct__law_moved : Value}
    {od__law_done an__law_done : Option Addr} {sl__law_done : Array (Option Value)} {oc__law_done kV__law_done dc__law_done pm__law_done cd__law_done ct__law_done : Value}
    {od__law_begun an__law_begun : Option Addr} {sl__law_begun : Array (Option Value)} {oc__law_begun kV__law_begun dc__law_begun pm__law_begun cd__law_begun ct__law_begun : Value}
    {od__law_step an__law_step : Option Addr} {sl__law_step : Array (Option Value)} {oc__law_step kV__law_step dc__law_step pm__law_step cd__law_step ct__law_step : Value}
    {od__law_normal an__law_normal : Option Addr} {sl__law_normal : Array (Option Value)} {oc__law_normal kV__law_normal dc__law_normal pm__law_normal cd__law_normal ct__law_normal : Value}
    {od__law_right an__law_right : Option Addr} {sl__law_right : Array (Option Value)} {oc__law_right kV__law_right dc__law_right pm__law_right cd__law_right ct__law_right : Value}
    {od_law an_law : Option Addr} {sl_law : Array (Option Value)} {oc_law kV_law dc_law pm_law cd_law ct_law : Value}
    {dd_W : Option Addr} {n_W : Nat} {sl_W : Array (Option Value)} {tw0 tw1 tw2 : Tok}
    {o_E0 : Obj} {nm_E0 qq_E0 : Str} {bs_E0 bm_E0 : List Value} {sn_E0 : List Str} {sub_E0 : List Value} {ab_E0 : Bool} {col_E0 : Option Bool} {dd_E0 : Option Addr} {k0_E0 k1_E0 k2_E0 k3_E0 k5_E0 : Option Value} {od_I0 an_I0 cdd_I0 cld_I0 : Option Addr} {sl_I0 ccs_I0 csl_I0 : Array (Option Value)} {oc_I0 kV_I0 dc_I0 pm_I0 ct_I0 ccl_I0 cl_I0 : Value} {vs_I0 : Array Value} {file_I0 : Str} {tf_I0 : Tok}
    {o_E2 : Obj} {nm_E2 qq_E2 : Str} {bs_E2 bm_E2 : List Value} {sn_E2 : List Str} {sub_E2 : List Value} {ab_E2 : Bool} {col_E2 : Option Bool} {dd_E2 : Option Addr} {k0_E2 k1_E2 k2_E2 k3_E2 k5_E2 : Option Value} {od_I2 an_I2 cdd_I2 cld_I2 : Option Addr} {sl_I2 ccs_I2 csl_I2 : Array (Option Value)} {oc_I2 kV_I2 dc_I2 pm_I2 ct_I2 ccl_I2 cl_I2 : Value} {vs_I2 : Array Value} {file_I2 : Str} {tf_I2 : Tok}
    {o_E3 : Obj} {nm_E3 qq_E3 : Str} {bs_E3 bm_E3 : List Value} {sn_E3 : List Str} {sub_E3 : List Value} {ab_E3 : Bool} {col_E3 : Option Bool} {dd_E3 : Option Addr} {k0_E3 k1_E3 k2_E3 k3_E3 k5_E3 : Option Value} {od_I3 an_I3 cdd_I3 cld_I3 : Option Addr} {sl_I3 ccs_I3 csl_I3 : Array (Option Value)} {oc_I3 kV_I3 dc_I3 pm_I3 ct_I3 ccl_I3 cl_I3 : Value} {vs_I3 : Array Value} {file_I3 : Str} {tf_I3 : Tok}
    {fo_and ro_and : Option Value}
    {fo_or ro_or : Option Value}
    {rc_shl : Option Value}
    {fo_shl ro_shl : Option Value}
    {rc_shr : Option Value}
    (aC_Blend : PySem.W.nsIn K mainGlobals "Blend" = some (some (.ref C_Blend)))
    (pg_Blend : PySem.W.plainGet K C_Blend Str.empty = true)
    (hd_Blend : PySem.W.hasDictIn K C_Blend = true)
    (po_Blend : PySem.W.plainOver K C_Blend = true)
    (sa_Blend : PySem.W.findIn K (.ref C_Blend) "__setattr__" = some (some (.builtin "object.__setattr__")))
    (mk_Blend : PySem.W.makesIn K C_Blend = true)
    (kc_Blend : PySem.W.keepIn K (.ref C_Blend) = true)
    (n_Blend_width : PySem.W.findIn K (.ref C_Blend) "width" = some none)
    (n_Blend_shift : PySem.W.findIn K (.ref C_Blend) "shift" = some none)
    (n_Blend_keep : PySem.W.findIn K (.ref C_Blend) "keep" = some none)
    (n_Blend_flip : PySem.W.findIn K (.ref C_Blend) "flip" = some none)
    (a_is_integer : PySem.W.nsIn K mainGlobals "is_integer" = some (some (.ref f_is_integer)))
    (l_is_integer : K.lookup f_is_integer = some ⟨oc_is_integer, od_is_integer, .func (PySem.W.fnOf "is_integer" "is_integer" (defArgs s_is_integer) (defBody s_is_integer) (defScope s_is_integer) .none kV_is_integer dc_is_integer pm_is_integer an_is_integer cd_is_integer ct_is_integer), sl_is_integer⟩)
    (c_is_integer : PySem.W.codeIn K cd_is_integer "is_integer" = true)
    (k_is_integer : PySem.W.keepIn K (.ref f_is_integer) = true)
    (a_need_width : PySem.W.nsIn K mainGlobals "need_width" = some (some (.ref f_need_width)))
    (l_need_width : K.lookup f_need_width = some ⟨oc_need_width, od_need_width, .func (PySem.W.fnOf "need_width" "need_width" (defArgs s_need_width) (defBody s_need_width) (defScope s_need_width) .none kV_need_width dc_need_width pm_need_width an_need_width cd_need_width ct_need_width), sl_need_width⟩)
    (c_need_width : PySem.W.codeIn K cd_need_width "need_width" = true)
    (k_need_width : PySem.W.keepIn K (.ref f_need_width) = true)
    (a_ones : PySem.W.nsIn K mainGlobals "ones" = some (some (.ref f_ones)))
    (l_ones : K.lookup f_ones = some ⟨oc_ones, od_ones, .func (PySem.W.fnOf "ones" "ones" (defArgs s_ones) (defBody s_ones) (defScope s_ones) .none kV_ones dc_ones pm_ones an_ones cd_ones ct_ones), sl_ones⟩)
    (c_ones : PySem.W.codeIn K cd_ones "ones" = true)
    (k_ones : PySem.W.keepIn K (.ref f_ones) = true)
    (a_is_word : PySem.W.nsIn K mainGlobals "is_word" = some (some (.ref f_is_word)))
    (l_is_word : K.lookup f_is_word = some ⟨oc_is_word, od_is_word, .func (PySem.W.fnOf "is_word" "is_word" (defArgs s_is_word) (defBody s_is_word) (defScope s_is_word) .none kV_is_word dc_is_word pm_is_word an_is_word cd_is_word ct_is_word), sl_is_word⟩)
    (c_is_word : PySem.W.codeIn K cd_is_word "is_word" = true)
    (k_is_word : PySem.W.keepIn K (.ref f_is_word) = true)
    (a_need_word : PySem.W.nsIn K mainGlobals "need_word" = some (some (.ref f_need_word)))
    (l_need_word : K.lookup f_need_word = some ⟨oc_need_word, od_need_word, .func (PySem.W.fnOf "need_word" "need_word" (defArgs s_need_word) (defBody s_need_word) (defScope s_need_word) .none kV_need_word dc_need_word pm_need_word an_need_word cd_need_word ct_need_word), sl_need_word⟩)
    (c_need_word : PySem.W.codeIn K cd_need_word "need_word" = true)
    (k_need_word : PySem.W.keepIn K (.ref f_need_word) = true)
    (a_shifted : PySem.W.nsIn K mainGlobals "shifted" = some (some (.ref f_shifted)))
    (l_shifted : K.lookup f_shifted = some ⟨oc_shifted, od_shifted, .func (PySem.W.fnOf "shifted" "shifted" (defArgs s_shifted) (defBody s_shifted) (defScope s_shifted) .none kV_shifted dc_shifted pm_shifted an_shifted cd_shifted ct_shifted), sl_shifted⟩)
    (c_shifted : PySem.W.codeIn K cd_shifted "shifted" = true)
    (k_shifted : PySem.W.keepIn K (.ref f_shifted) = true)
    (a_need_step : PySem.W.nsIn K mainGlobals "need_step" = some (some (.ref f_need_step)))
    (l_need_step : K.lookup f_need_step = some ⟨oc_need_step, od_need_step, .func (PySem.W.fnOf "need_step" "need_step" (defArgs s_need_step) (defBody s_need_step) (defScope s_need_step) .none kV_need_step dc_need_step pm_need_step an_need_step cd_need_step ct_need_step), sl_need_step⟩)
    (c_need_step : PySem.W.codeIn K cd_need_step "need_step" = true)
    (k_need_step : PySem.W.keepIn K (.ref f_need_step) = true)
    (a_Blend___init__ : PySem.W.findIn K (.ref C_Blend) "__init__" = some (some (.ref f_Blend___init__)))
    (i_Blend___init__ : PySem.W.isFn K (.ref f_Blend___init__) = true)
    (l_Blend___init__ : K.lookup f_Blend___init__ = some ⟨oc_Blend___init__, od_Blend___init__, .func (PySem.W.fnOf "__init__" "Blend.__init__" (defArgs s_Blend___init__) (defBody s_Blend___init__) (defScope s_Blend___init__) (.ref DT_Blend___init__) kV_Blend___init__ dc_Blend___init__ pm_Blend___init__ an_Blend___init__ cd_Blend___init__ ct_Blend___init__), sl_Blend___init__⟩)
    (dt_Blend___init__ : K.lookup DT_Blend___init__ = some ⟨.type "tuple", dd_DT_Blend___init__, .seq #[.int 0 tk_Blend___init___0, .none, .int 0 tk_Blend___init___2] n_DT_Blend___init__, sl_DT_Blend___init__⟩)
    (c_Blend___init__ : PySem.W.codeIn K cd_Blend___init__ "Blend.__init__" = true)
    (k_Blend___init__ : PySem.W.keepIn K (.ref f_Blend___init__) = true)
    (a_Blend_constant : PySem.W.findCls K (.ref C_Blend) (.type "type") "constant" = some (.get (.builtin "classmethod.__get__") (.ref p_Blend_constant) .none (.ref C_Blend)))
    (rc_Blend_constant : PySem.W.recIn K p_Blend_constant "classmethod" = some (.ref f_Blend_constant :: rs_Blend_constant))
    (fi_Blend_constant : PySem.W.fnIn K f_Blend_constant = true)
    (l_Blend_constant : K.lookup f_Blend_constant = some ⟨oc_Blend_constant, od_Blend_constant, .func (PySem.W.fnOf "constant" "Blend.constant" (defArgs s_Blend_constant) (defBody s_Blend_constant) (defScope s_Blend_constant) .none kV_Blend_constant dc_Blend_constant pm_Blend_constant an_Blend_constant cd_Blend_constant ct_Blend_constant), sl_Blend_constant⟩)
    (c_Blend_constant : PySem.W.codeIn K cd_Blend_constant "Blend.constant" = true)
    (k_Blend_constant : PySem.W.keepIn K (.ref f_Blend_constant) = true)
    (pa_Blend_is_constant : PySem.W.findIn K (.ref C_Blend) "is_constant" = some (some (.ref p_Blend_is_constant)))
    (pb_Blend_is_constant : PySem.W.specialIn K (.ref p_Blend_is_constant) "__get__" = some (some (.builtin "property.__get__")))
    (pc_Blend_is_constant : PySem.W.takesIn K (.ref p_Blend_is_constant) = some true)
    (pd_Blend_is_constant : PySem.W.recIn K p_Blend_is_constant "property" = some (.ref f_Blend_is_constant :: rs_Blend_is_constant))
    (l_Blend_is_constant : K.lookup f_Blend_is_constant = some ⟨oc_Blend_is_constant, od_Blend_is_constant, .func (PySem.W.fnOf "is_constant" "Blend.is_constant" (defArgs s_Blend_is_constant) (defBody s_Blend_is_constant) (defScope s_Blend_is_constant) .none kV_Blend_is_constant dc_Blend_is_constant pm_Blend_is_constant an_Blend_is_constant cd_Blend_is_constant ct_Blend_is_constant), sl_Blend_is_constant⟩)
    (c_Blend_is_constant : PySem.W.codeIn K cd_Blend_is_constant "Blend.is_constant" = true)
    (k_Blend_is_constant : PySem.W.keepIn K (.ref f_Blend_is_constant) = true)
    (a_Blend___call__ : PySem.W.findIn K (.ref C_Blend) "__call__" = some (some (.ref f_Blend___call__)))
    (i_Blend___call__ : PySem.W.isFn K (.ref f_Blend___call__) = true)
    (l_Blend___call__ : K.lookup f_Blend___call__ = some ⟨oc_Blend___call__, od_Blend___call__, .func (PySem.W.fnOf "__call__" "Blend.__call__" (defArgs s_Blend___call__) (defBody s_Blend___call__) (defScope s_Blend___call__) .none kV_Blend___call__ dc_Blend___call__ pm_Blend___call__ an_Blend___call__ cd_Blend___call__ ct_Blend___call__), sl_Blend___call__⟩)
    (c_Blend___call__ : PySem.W.codeIn K cd_Blend___call__ "Blend.__call__" = true)
    (k_Blend___call__ : PySem.W.keepIn K (.ref f_Blend___call__) = true)
    (a_Blend___and__ : PySem.W.findIn K (.ref C_Blend) "__and__" = some (some (.ref f_Blend___and__)))
    (i_Blend___and__ : PySem.W.isFn K (.ref f_Blend___and__) = true)
    (l_Blend___and__ : K.lookup f_Blend___and__ = some ⟨oc_Blend___and__, od_Blend___and__, .func (PySem.W.fnOf "__and__" "Blend.__and__" (defArgs s_Blend___and__) (defBody s_Blend___and__) (defScope s_Blend___and__) .none kV_Blend___and__ dc_Blend___and__ pm_Blend___and__ an_Blend___and__ cd_Blend___and__ ct_Blend___and__), sl_Blend___and__⟩)
    (c_Blend___and__ : PySem.W.codeIn K cd_Blend___and__ "Blend.__and__" = true)
    (k_Blend___and__ : PySem.W.keepIn K (.ref f_Blend___and__) = true)
    (a_Blend___rand__ : PySem.W.findIn K (.ref C_Blend) "__rand__" = some (some (.ref f_Blend___rand__)))
    (i_Blend___rand__ : PySem.W.isFn K (.ref f_Blend___rand__) = true)
    (l_Blend___rand__ : K.lookup f_Blend___rand__ = some ⟨oc_Blend___rand__, od_Blend___rand__, .func (PySem.W.fnOf "__rand__" "Blend.__rand__" (defArgs s_Blend___rand__) (defBody s_Blend___rand__) (defScope s_Blend___rand__) .none kV_Blend___rand__ dc_Blend___rand__ pm_Blend___rand__ an_Blend___rand__ cd_Blend___rand__ ct_Blend___rand__), sl_Blend___rand__⟩)
    (c_Blend___rand__ : PySem.W.codeIn K cd_Blend___rand__ "Blend.__rand__" = true)
    (k_Blend___rand__ : PySem.W.keepIn K (.ref f_Blend___rand__) = true)
    (a_Blend___or__ : PySem.W.findIn K (.ref C_Blend) "__or__" = some (some (.ref f_Blend___or__)))
    (i_Blend___or__ : PySem.W.isFn K (.ref f_Blend___or__) = true)
    (l_Blend___or__ : K.lookup f_Blend___or__ = some ⟨oc_Blend___or__, od_Blend___or__, .func (PySem.W.fnOf "__or__" "Blend.__or__" (defArgs s_Blend___or__) (defBody s_Blend___or__) (defScope s_Blend___or__) .none kV_Blend___or__ dc_Blend___or__ pm_Blend___or__ an_Blend___or__ cd_Blend___or__ ct_Blend___or__), sl_Blend___or__⟩)
    (c_Blend___or__ : PySem.W.codeIn K cd_Blend___or__ "Blend.__or__" = true)
    (k_Blend___or__ : PySem.W.keepIn K (.ref f_Blend___or__) = true)
    (a_Blend___ror__ : PySem.W.findIn K (.ref C_Blend) "__ror__" = some (some (.ref f_Blend___ror__)))
    (i_Blend___ror__ : PySem.W.isFn K (.ref f_Blend___ror__) = true)
    (l_Blend___ror__ : K.lookup f_Blend___ror__ = some ⟨oc_Blend___ror__, od_Blend___ror__, .func (PySem.W.fnOf "__ror__" "Blend.__ror__" (defArgs s_Blend___ror__) (defBody s_Blend___ror__) (defScope s_Blend___ror__) .none kV_Blend___ror__ dc_Blend___ror__ pm_Blend___ror__ an_Blend___ror__ cd_Blend___ror__ ct_Blend___ror__), sl_Blend___ror__⟩)
    (c_Blend___ror__ : PySem.W.codeIn K cd_Blend___ror__ "Blend.__ror__" = true)
    (k_Blend___ror__ : PySem.W.keepIn K (.ref f_Blend___ror__) = true)
    (a_Blend___xor__ : PySem.W.findIn K (.ref C_Blend) "__xor__" = some (some (.ref f_Blend___xor__)))
    (i_Blend___xor__ : PySem.W.isFn K (.ref f_Blend___xor__) = true)
    (l_Blend___xor__ : K.lookup f_Blend___xor__ = some ⟨oc_Blend___xor__, od_Blend___xor__, .func (PySem.W.fnOf "__xor__" "Blend.__xor__" (defArgs s_Blend___xor__) (defBody s_Blend___xor__) (defScope s_Blend___xor__) .none kV_Blend___xor__ dc_Blend___xor__ pm_Blend___xor__ an_Blend___xor__ cd_Blend___xor__ ct_Blend___xor__), sl_Blend___xor__⟩)
    (c_Blend___xor__ : PySem.W.codeIn K cd_Blend___xor__ "Blend.__xor__" = true)
    (k_Blend___xor__ : PySem.W.keepIn K (.ref f_Blend___xor__) = true)
    (a_Blend___rxor__ : PySem.W.findIn K (.ref C_Blend) "__rxor__" = some (some (.ref f_Blend___rxor__)))
    (i_Blend___rxor__ : PySem.W.isFn K (.ref f_Blend___rxor__) = true)
    (l_Blend___rxor__ : K.lookup f_Blend___rxor__ = some ⟨oc_Blend___rxor__, od_Blend___rxor__, .func (PySem.W.fnOf "__rxor__" "Blend.__rxor__" (defArgs s_Blend___rxor__) (defBody s_Blend___rxor__) (defScope s_Blend___rxor__) .none kV_Blend___rxor__ dc_Blend___rxor__ pm_Blend___rxor__ an_Blend___rxor__ cd_Blend___rxor__ ct_Blend___rxor__), sl_Blend___rxor__⟩)
    (c_Blend___rxor__ : PySem.W.codeIn K cd_Blend___rxor__ "Blend.__rxor__" = true)
    (k_Blend___rxor__ : PySem.W.keepIn K (.ref f_Blend___rxor__) = true)
    (a_Blend___invert__ : PySem.W.findIn K (.ref C_Blend) "__invert__" = some (some (.ref f_Blend___invert__)))
    (i_Blend___invert__ : PySem.W.isFn K (.ref f_Blend___invert__) = true)
    (l_Blend___invert__ : K.lookup f_Blend___invert__ = some ⟨oc_Blend___invert__, od_Blend___invert__, .func (PySem.W.fnOf "__invert__" "Blend.__invert__" (defArgs s_Blend___invert__) (defBody s_Blend___invert__) (defScope s_Blend___invert__) .none kV_Blend___invert__ dc_Blend___invert__ pm_Blend___invert__ an_Blend___invert__ cd_Blend___invert__ ct_Blend___invert__), sl_Blend___invert__⟩)
    (c_Blend___invert__ : PySem.W.codeIn K cd_Blend___invert__ "Blend.__invert__" = true)
    (k_Blend___invert__ : PySem.W.keepIn K (.ref f_Blend___invert__) = true)
    (a_Blend___lshift__ : PySem.W.findIn K (.ref C_Blend) "__lshift__" = some (some (.ref f_Blend___lshift__)))
    (i_Blend___lshift__ : PySem.W.isFn K (.ref f_Blend___lshift__) = true)
    (l_Blend___lshift__ : K.lookup f_Blend___lshift__ = some ⟨oc_Blend___lshift__, od_Blend___lshift__, .func (PySem.W.fnOf "__lshift__" "Blend.__lshift__" (defArgs s_Blend___lshift__) (defBody s_Blend___lshift__) (defScope s_Blend___lshift__) .none kV_Blend___lshift__ dc_Blend___lshift__ pm_Blend___lshift__ an_Blend___lshift__ cd_Blend___lshift__ ct_Blend___lshift__), sl_Blend___lshift__⟩)
    (c_Blend___lshift__ : PySem.W.codeIn K cd_Blend___lshift__ "Blend.__lshift__" = true)
    (k_Blend___lshift__ : PySem.W.keepIn K (.ref f_Blend___lshift__) = true)
    (a_Blend___rshift__ : PySem.W.findIn K (.ref C_Blend) "__rshift__" = some (some (.ref f_Blend___rshift__)))
    (i_Blend___rshift__ : PySem.W.isFn K (.ref f_Blend___rshift__) = true)
    (l_Blend___rshift__ : K.lookup f_Blend___rshift__ = some ⟨oc_Blend___rshift__, od_Blend___rshift__, .func (PySem.W.fnOf "__rshift__" "Blend.__rshift__" (defArgs s_Blend___rshift__) (defBody s_Blend___rshift__) (defScope s_Blend___rshift__) .none kV_Blend___rshift__ dc_Blend___rshift__ pm_Blend___rshift__ an_Blend___rshift__ cd_Blend___rshift__ ct_Blend___rshift__), sl_Blend___rshift__⟩)
    (c_Blend___rshift__ : PySem.W.codeIn K cd_Blend___rshift__ "Blend.__rshift__" = true)
    (k_Blend___rshift__ : PySem.W.keepIn K (.ref f_Blend___rshift__) = true)
    (a_Blend___repr__ : PySem.W.findIn K (.ref C_Blend) "__repr__" = some (some (.ref f_Blend___repr__)))
    (i_Blend___repr__ : PySem.W.isFn K (.ref f_Blend___repr__) = true)
    (l_Blend___repr__ : K.lookup f_Blend___repr__ = some ⟨oc_Blend___repr__, od_Blend___repr__, .func (PySem.W.fnOf "__repr__" "Blend.__repr__" (defArgs s_Blend___repr__) (defBody s_Blend___repr__) (defScope s_Blend___repr__) .none kV_Blend___repr__ dc_Blend___repr__ pm_Blend___repr__ an_Blend___repr__ cd_Blend___repr__ ct_Blend___repr__), sl_Blend___repr__⟩)
    (c_Blend___repr__ : PySem.W.codeIn K cd_Blend___repr__ "Blend.__repr__" = true)
    (k_Blend___repr__ : PySem.W.keepIn K (.ref f_Blend___repr__) = true)
    (a_Blend_sources : PySem.W.findIn K (.ref C_Blend) "sources" = some (some (.ref f_Blend_sources)))
    (i_Blend_sources : PySem.W.isFn K (.ref f_Blend_sources) = true)
    (l_Blend_sources : K.lookup f_Blend_sources = some ⟨oc_Blend_sources, od_Blend_sources, .func (PySem.W.fnOf "sources" "Blend.sources" (defArgs s_Blend_sources) (defBody s_Blend_sources) (defScope s_Blend_sources) .none kV_Blend_sources dc_Blend_sources pm_Blend_sources an_Blend_sources cd_Blend_sources ct_Blend_sources), sl_Blend_sources⟩)
    (c_Blend_sources : PySem.W.codeIn K cd_Blend_sources "Blend.sources" = true)
    (k_Blend_sources : PySem.W.keepIn K (.ref f_Blend_sources) = true)
    (a_moved : PySem.W.nsIn K mainGlobals "moved" = some (some (.ref f_moved)))
    (l_moved : K.lookup f_moved = some ⟨oc_moved, od_moved, .func (PySem.W.fnOf "moved" "moved" (defArgs s_moved) (defBody s_moved) (defScope s_moved) .none kV_moved dc_moved pm_moved an_moved cd_moved ct_moved), sl_moved⟩)
    (c_moved : PySem.W.codeIn K cd_moved "moved" = true)
    (k_moved : PySem.W.keepIn K (.ref f_moved) = true)
    (a__law_pen : PySem.W.nsIn K mainGlobals "_law_pen" = some (some (.ref f__law_pen)))
    (l__law_pen : K.lookup f__law_pen = some ⟨oc__law_pen, od__law_pen, .func (PySem.W.fnOf "_law_pen" "_law_pen" (defArgs s__law_pen) (defBody s__law_pen) (defScope s__law_pen) .none kV__law_pen dc__law_pen pm__law_pen an__law_pen cd__law_pen ct__law_pen), sl__law_pen⟩)
    (c__law_pen : PySem.W.codeIn K cd__law_pen "_law_pen" = true)
    (k__law_pen : PySem.W.keepIn K (.ref f__law_pen) = true)
    (a__law_draw : PySem.W.nsIn K mainGlobals "_law_draw" = some (some (.ref f__law_draw)))
    (l__law_draw : K.lookup f__law_draw = some ⟨oc__law_draw, od__law_draw, .func (PySem.W.fnOf "_law_draw" "_law_draw" (defArgs s__law_draw) (defBody s__law_draw) (defScope s__law_draw) .none kV__law_draw dc__law_draw pm__law_draw an__law_draw cd__law_draw ct__law_draw), sl__law_draw⟩)
    (c__law_draw : PySem.W.codeIn K cd__law_draw "_law_draw" = true)
    (k__law_draw : PySem.W.keepIn K (.ref f__law_draw) = true)
    (a__law_word : PySem.W.nsIn K mainGlobals "_law_word" = some (some (.ref f__law_word)))
    (l__law_word : K.lookup f__law_word = some ⟨oc__law_word, od__law_word, .func (PySem.W.fnOf "_law_word" "_law_word" (defArgs s__law_word) (defBody s__law_word) (defScope s__law_word) .none kV__law_word dc__law_word pm__law_word an__law_word cd__law_word ct__law_word), sl__law_word⟩)
    (c__law_word : PySem.W.codeIn K cd__law_word "_law_word" = true)
    (k__law_word : PySem.W.keepIn K (.ref f__law_word) = true)
    (a__law_top : PySem.W.nsIn K mainGlobals "_law_top" = some (some (.ref f__law_top)))
    (l__law_top : K.lookup f__law_top = some ⟨oc__law_top, od__law_top, .func (PySem.W.fnOf "_law_top" "_law_top" (defArgs s__law_top) (defBody s__law_top) (defScope s__law_top) .none kV__law_top dc__law_top pm__law_top an__law_top cd__law_top ct__law_top), sl__law_top⟩)
    (c__law_top : PySem.W.codeIn K cd__law_top "_law_top" = true)
    (k__law_top : PySem.W.keepIn K (.ref f__law_top) = true)
    (a__law_moved : PySem.W.nsIn K mainGlobals "_law_moved" = some (some (.ref f__law_moved)))
    (l__law_moved : K.lookup f__law_moved = some ⟨oc__law_moved, od__law_moved, .func (PySem.W.fnOf "_law_moved" "_law_moved" (defArgs s__law_moved) (defBody s__law_moved) (defScope s__law_moved) .none kV__law_moved dc__law_moved pm__law_moved an__law_moved cd__law_moved ct__law_moved), sl__law_moved⟩)
    (c__law_moved : PySem.W.codeIn K cd__law_moved "_law_moved" = true)
    (k__law_moved : PySem.W.keepIn K (.ref f__law_moved) = true)
    (a__law_done : PySem.W.nsIn K mainGlobals "_law_done" = some (some (.ref f__law_done)))
    (l__law_done : K.lookup f__law_done = some ⟨oc__law_done, od__law_done, .func (PySem.W.fnOf "_law_done" "_law_done" (defArgs s__law_done) (defBody s__law_done) (defScope s__law_done) .none kV__law_done dc__law_done pm__law_done an__law_done cd__law_done ct__law_done), sl__law_done⟩)
    (c__law_done : PySem.W.codeIn K cd__law_done "_law_done" = true)
    (k__law_done : PySem.W.keepIn K (.ref f__law_done) = true)
    (a__law_begun : PySem.W.nsIn K mainGlobals "_law_begun" = some (some (.ref f__law_begun)))
    (l__law_begun : K.lookup f__law_begun = some ⟨oc__law_begun, od__law_begun, .func (PySem.W.fnOf "_law_begun" "_law_begun" (defArgs s__law_begun) (defBody s__law_begun) (defScope s__law_begun) .none kV__law_begun dc__law_begun pm__law_begun an__law_begun cd__law_begun ct__law_begun), sl__law_begun⟩)
    (c__law_begun : PySem.W.codeIn K cd__law_begun "_law_begun" = true)
    (k__law_begun : PySem.W.keepIn K (.ref f__law_begun) = true)
    (a__law_step : PySem.W.nsIn K mainGlobals "_law_step" = some (some (.ref f__law_step)))
    (l__law_step : K.lookup f__law_step = some ⟨oc__law_step, od__law_step, .func (PySem.W.fnOf "_law_step" "_law_step" (defArgs s__law_step) (defBody s__law_step) (defScope s__law_step) .none kV__law_step dc__law_step pm__law_step an__law_step cd__law_step ct__law_step), sl__law_step⟩)
    (c__law_step : PySem.W.codeIn K cd__law_step "_law_step" = true)
    (k__law_step : PySem.W.keepIn K (.ref f__law_step) = true)
    (a__law_normal : PySem.W.nsIn K mainGlobals "_law_normal" = some (some (.ref f__law_normal)))
    (l__law_normal : K.lookup f__law_normal = some ⟨oc__law_normal, od__law_normal, .func (PySem.W.fnOf "_law_normal" "_law_normal" (defArgs s__law_normal) (defBody s__law_normal) (defScope s__law_normal) .none kV__law_normal dc__law_normal pm__law_normal an__law_normal cd__law_normal ct__law_normal), sl__law_normal⟩)
    (c__law_normal : PySem.W.codeIn K cd__law_normal "_law_normal" = true)
    (k__law_normal : PySem.W.keepIn K (.ref f__law_normal) = true)
    (a__law_right : PySem.W.nsIn K mainGlobals "_law_right" = some (some (.ref f__law_right)))
    (l__law_right : K.lookup f__law_right = some ⟨oc__law_right, od__law_right, .func (PySem.W.fnOf "_law_right" "_law_right" (defArgs s__law_right) (defBody s__law_right) (defScope s__law_right) .none kV__law_right dc__law_right pm__law_right an__law_right cd__law_right ct__law_right), sl__law_right⟩)
    (c__law_right : PySem.W.codeIn K cd__law_right "_law_right" = true)
    (k__law_right : PySem.W.keepIn K (.ref f__law_right) = true)
    (a_law : PySem.W.nsIn K mainGlobals "law" = some (some (.ref f_law)))
    (l_law : K.lookup f_law = some ⟨oc_law, od_law, .func (PySem.W.fnOf "law" "law" (defArgs s_law) (defBody s_law) (defScope s_law) .none kV_law dc_law pm_law an_law cd_law ct_law), sl_law⟩)
    (c_law : PySem.W.codeIn K cd_law "law" = true)
    (k_law : PySem.W.keepIn K (.ref f_law) = true)
    (tyg : PySem.W.specialIn K (.builtin "object.__class__") "__get__" = some (some (.builtin "getset_descriptor.__get__")))
    (tyt : PySem.W.takesIn K (.builtin "object.__class__") = some true)
    (aWd : PySem.W.nsIn K mainGlobals "WIDTHS" = some (some (.ref aW)))
    (lWd : K.lookup aW = some ⟨.type "tuple", dd_W, .seq #[.int 8 tw0, .int 16 tw1, .int 32 tw2] n_W, sl_W⟩)
    (aE0 : PySem.W.nsIn K mainGlobals "InvalidWidth" = some (some (.ref e0)))
    (xs0 : PySem.W.subIn K (.ref e0) (.type "BaseException") = some true)
    (xv0 : PySem.W.findIn K (.ref e0) "value" = some none)
    (lkE0 : K.lookup e0 = some o_E0)
    (lkF0 : o_E0 = (excClassObj nm_E0 qq_E0 e0 N_E0 bs_E0 bm_E0 true sn_E0 sub_E0 ab_E0 col_E0 dd_E0 k0_E0 k1_E0 k2_E0 k3_E0 k5_E0 "ValueError.__new__"))
    (rvE0 : PySem.HandSPX.refsVE bm_E0 = true)
    (saE0 : PySem.W.findIn K (.ref e0) "__setattr__" = some (some (.builtin "object.__setattr__")))
    (tyE0 : PySem.W.typeIn K (.ref e0) = some (.type "type"))
    (kpE0 : PySem.W.keepIn K (.ref e0) = true)
    (inE0 : PySem.W.findIn K (.ref e0) "__init__" = some (some (.ref fI0)))
    (tiE0 : PySem.W.typeIn K (.ref fI0) = some (.type "function"))
    (lIK0 : K.lookup fI0 = some ⟨oc_I0, od_I0, .func (PySem.W.ksFn "__init__" "InvalidWidth.__init__" (defArgs s_I0) (defBody s_I0) (defScope s_I0) .none kV_I0 dc_I0 pm_I0 an_I0 (.ref cda0) ct_I0 ccell0), sl_I0⟩)
    (cIK0 : PySem.W.codeIn K (.ref cda0) "InvalidWidth.__init__" = true)
    (lcd0 : K.lookup cda0 = some ⟨ccl_I0, cdd_I0, .fields vs_I0, ccs_I0⟩)
    (vsI0 : vs_I0[2]? = some (.str file_I0 tf_I0))
    (fiI0 : ((l.prog.main.file : Str) == file_I0) = true)
    (lcc0 : K.lookup ccell0 = some ⟨cl_I0, cld_I0, .cell (some (.ref e0)), csl_I0⟩)
    (sbI0 : PySem.W.mroIn K e0 (.ref e0) = some true)
    (veI0 : PySem.W.mroIn K e0 (.type "ValueError") = some true)
    (suI0 : PySem.W.ks_superIn K e0 e0 "__init__" = some (some (.builtin "ValueError.__init__")))
    (aE2 : PySem.W.nsIn K mainGlobals "InvalidWord" = some (some (.ref e2)))
    (xs2 : PySem.W.subIn K (.ref e2) (.type "BaseException") = some true)
    (xv2 : PySem.W.findIn K (.ref e2) "value" = some none)
    (lkE2 : K.lookup e2 = some o_E2)
    (lkF2 : o_E2 = (excClassObj nm_E2 qq_E2 e2 N_E2 bs_E2 bm_E2 true sn_E2 sub_E2 ab_E2 col_E2 dd_E2 k0_E2 k1_E2 k2_E2 k3_E2 k5_E2 "ValueError.__new__"))
    (rvE2 : PySem.HandSPX.refsVE bm_E2 = true)
    (saE2 : PySem.W.findIn K (.ref e2) "__setattr__" = some (some (.builtin "object.__setattr__")))
    (tyE2 : PySem.W.typeIn K (.ref e2) = some (.type "type"))
    (kpE2 : PySem.W.keepIn K (.ref e2) = true)
    (inE2 : PySem.W.findIn K (.ref e2) "__init__" = some (some (.ref fI2)))
    (tiE2 : PySem.W.typeIn K (.ref fI2) = some (.type "function"))
    (lIK2 : K.lookup fI2 = some ⟨oc_I2, od_I2, .func (PySem.W.ksFn "__init__" "InvalidWord.__init__" (defArgs s_I2) (defBody s_I2) (defScope s_I2) .none kV_I2 dc_I2 pm_I2 an_I2 (.ref cda2) ct_I2 ccell2), sl_I2⟩)
    (cIK2 : PySem.W.codeIn K (.ref cda2) "InvalidWord.__init__" = true)
    (lcd2 : K.lookup cda2 = some ⟨ccl_I2, cdd_I2, .fields vs_I2, ccs_I2⟩)
    (vsI2 : vs_I2[2]? = some (.str file_I2 tf_I2))
    (fiI2 : ((l.prog.main.file : Str) == file_I2) = true)
    (lcc2 : K.lookup ccell2 = some ⟨cl_I2, cld_I2, .cell (some (.ref e2)), csl_I2⟩)
    (sbI2 : PySem.W.mroIn K e2 (.ref e2) = some true)
    (veI2 : PySem.W.mroIn K e2 (.type "ValueError") = some true)
    (suI2 : PySem.W.ks_superIn K e2 e2 "__init__" = some (some (.builtin "ValueError.__init__")))
    (aE3 : PySem.W.nsIn K mainGlobals "InvalidShift" = some (some (.ref e3)))
    (xs3 : PySem.W.subIn K (.ref e3) (.type "BaseException") = some true)
    (xv3 : PySem.W.findIn K (.ref e3) "value" = some none)
    (lkE3 : K.lookup e3 = some o_E3)
    (lkF3 : o_E3 = (excClassObj nm_E3 qq_E3 e3 N_E3 bs_E3 bm_E3 true sn_E3 sub_E3 ab_E3 col_E3 dd_E3 k0_E3 k1_E3 k2_E3 k3_E3 k5_E3 "ValueError.__new__"))
    (rvE3 : PySem.HandSPX.refsVE bm_E3 = true)
    (saE3 : PySem.W.findIn K (.ref e3) "__setattr__" = some (some (.builtin "object.__setattr__")))
    (tyE3 : PySem.W.typeIn K (.ref e3) = some (.type "type"))
    (kpE3 : PySem.W.keepIn K (.ref e3) = true)
    (inE3 : PySem.W.findIn K (.ref e3) "__init__" = some (some (.ref fI3)))
    (tiE3 : PySem.W.typeIn K (.ref fI3) = some (.type "function"))
    (lIK3 : K.lookup fI3 = some ⟨oc_I3, od_I3, .func (PySem.W.ksFn "__init__" "InvalidShift.__init__" (defArgs s_I3) (defBody s_I3) (defScope s_I3) .none kV_I3 dc_I3 pm_I3 an_I3 (.ref cda3) ct_I3 ccell3), sl_I3⟩)
    (cIK3 : PySem.W.codeIn K (.ref cda3) "InvalidShift.__init__" = true)
    (lcd3 : K.lookup cda3 = some ⟨ccl_I3, cdd_I3, .fields vs_I3, ccs_I3⟩)
    (vsI3 : vs_I3[2]? = some (.str file_I3 tf_I3))
    (fiI3 : ((l.prog.main.file : Str) == file_I3) = true)
    (lcc3 : K.lookup ccell3 = some ⟨cl_I3, cld_I3, .cell (some (.ref e3)), csl_I3⟩)
    (sbI3 : PySem.W.mroIn K e3 (.ref e3) = some true)
    (veI3 : PySem.W.mroIn K e3 (.type "ValueError") = some true)
    (suI3 : PySem.W.ks_superIn K e3 e3 "__init__" = some (some (.builtin "ValueError.__init__")))
    (tpI : (l.prog.main.scope.names.lookup ("super" : Str)).isSome = false)
    (opI : PySem.W.nsIn K cStatics "thirdparty.any" = some none)
    (fnC : PySem.W.fnIn K f_Blend___call__ = true)
    (sfB : PySem.W.selfFirst K C_Blend = true)
    (sub_int : PySem.W.subIn K (.ref C_Blend) (.type "int") = some false)
    (sub_bool : PySem.W.subIn K (.ref C_Blend) (.type "bool") = some false)
    (sub_dict : PySem.W.subIn K (.ref C_Blend) (.type "dict") = some false)
    (clB : ∃ cd, PySem.W.clsIn K C_Blend = some cd ∧ cd.mro = [.ref C_Blend, .type "object"])
    (sbI_int : PySem.W.subIn K (.type "int") (.ref C_Blend) = some false)
    (rdB : PySem.W.readsIn K C_Blend (.type "type") = true)
    (gaB : PySem.W.specialIn K (.ref C_Blend) "__getattribute__" = some (some (.builtin "type.__getattribute__")))
    (d_and : PySem.W.findIn K (.ref C_Blend) (PySem.dunder Operator.BitAnd.info.2) = some (some (.ref f_Blend___and__)))
    (r_and : PySem.W.findIn K (.ref C_Blend) (dunderR Operator.BitAnd.info.2) = some (some (.ref f_Blend___rand__)))
    (i1_and : PySem.W.findIn K (.type "int") (PySem.dunder Operator.BitAnd.info.2) = some fo_and)
    (i2_and : PySem.W.findIn K (.type "int") (dunderR Operator.BitAnd.info.2) = some ro_and)
    (i3_and : PySem.W.findIn K (.ref C_Blend) (dunderI Operator.BitAnd.info.2) = some none)
    (i4_and : PySem.W.findIn K (.type "object") (dunderI Operator.BitAnd.info.2) = some none)
    (d_or : PySem.W.findIn K (.ref C_Blend) (PySem.dunder Operator.BitOr.info.2) = some (some (.ref f_Blend___or__)))
    (r_or : PySem.W.findIn K (.ref C_Blend) (dunderR Operator.BitOr.info.2) = some (some (.ref f_Blend___ror__)))
    (i1_or : PySem.W.findIn K (.type "int") (PySem.dunder Operator.BitOr.info.2) = some fo_or)
    (i2_or : PySem.W.findIn K (.type "int") (dunderR Operator.BitOr.info.2) = some ro_or)
    (i3_or : PySem.W.findIn K (.ref C_Blend) (dunderI Operator.BitOr.info.2) = some none)
    (i4_or : PySem.W.findIn K (.type "object") (dunderI Operator.BitOr.info.2) = some none)
    (d_xor : PySem.W.findIn K (.ref C_Blend) (PySem.dunder Operator.BitXor.info.2) = some (some (.ref f_Blend___xor__)))
    (r_xor : PySem.W.findIn K (.ref C_Blend) (dunderR Operator.BitXor.info.2) = some (some (.ref f_Blend___rxor__)))
    (d_shl : PySem.W.findIn K (.ref C_Blend) (PySem.dunder Operator.LShift.info.2) = some (some (.ref f_Blend___lshift__)))
    (r_shl : PySem.W.findIn K (.ref C_Blend) (dunderR Operator.LShift.info.2) = some rc_shl)
    (q_shl : rc_shl = none ∨ ∃ g : Addr, rc_shl = some (.ref g))
    (i1_shl : PySem.W.findIn K (.type "int") (PySem.dunder Operator.LShift.info.2) = some fo_shl)
    (i2_shl : PySem.W.findIn K (.type "int") (dunderR Operator.LShift.info.2) = some ro_shl)
    (i3_shl : PySem.W.findIn K (.ref C_Blend) (dunderI Operator.LShift.info.2) = some none)
    (i4_shl : PySem.W.findIn K (.type "object") (dunderI Operator.LShift.info.2) = some none)
    (d_shr : PySem.W.findIn K (.ref C_Blend) (PySem.dunder Operator.RShift.info.2) = some (some (.ref f_Blend___rshift__)))
    (r_shr : PySem.W.findIn K (.ref C_Blend) (dunderR Operator.RShift.info.2) = some rc_shr)
    (q_shr : rc_shr = none ∨ ∃ g : Addr, rc_shr = some (.ref g))
    (z_int : PySem.W.nsIn K mainGlobals "int" = some none)
    (z_bool : PySem.W.nsIn K mainGlobals "bool" = some none)
    (z_abs : PySem.W.nsIn K mainGlobals "abs" = some none)
    (z_len : PySem.W.nsIn K mainGlobals "len" = some none)
    (z_list : PySem.W.nsIn K mainGlobals "list" = some none)
    (z_str : PySem.W.nsIn K mainGlobals "str" = some none)
    (z_range : PySem.W.nsIn K mainGlobals "range" = some none)
    (z_isinstance : PySem.W.nsIn K mainGlobals "isinstance" = some none)
    (z_repr : PySem.W.nsIn K mainGlobals "repr" = some none)
    (z_sorted : PySem.W.nsIn K mainGlobals "sorted" = some none)
    (z_super : PySem.W.nsIn K mainGlobals "super" = some none)
    : ∃ fd : FuncData, (∀ (s : Shared) (v : Value), BindsTo s fd ⟨[v], []⟩ [("_law_script", v)]) ∧ ∀ base : Heap, K.In base → base.Ns mainGlobals mg → KG.FnG l.prog w K mg base CX0 12 fa fd ["_law_script"] (spLaw K) := by
  have e := hfa.symm.trans (PySem.W.mg_of X G a_law)
  cases e
  have F_is_integer := fun_mk (st := s_is_integer) l_is_integer c_is_integer k_is_integer
  have b_is_integer := F_is_integer.binds (ps := ["value"]) fun _ _ _ _ _ _ us hl => match us, hl with | [_], _ => rfl
  have F_need_width := fun_mk (st := s_need_width) l_need_width c_need_width k_need_width
  have b_need_width := F_need_width.binds (ps := ["width"]) fun _ _ _ _ _ _ us hl => match us, hl with | [_], _ => rfl
  have F_ones := fun_mk (st := s_ones) l_ones c_ones k_ones
  have b_ones := F_ones.binds (ps := ["width"]) fun _ _ _ _ _ _ us hl => match us, hl with | [_], _ => rfl
  have F_is_word := fun_mk (st := s_is_word) l_is_word c_is_word k_is_word
  have b_is_word := F_is_word.binds (ps := ["width", "value"]) fun _ _ _ _ _ _ us hl => match us, hl with | [_, _], _ => rfl
  have F_need_word := fun_mk (st := s_need_word) l_need_word c_need_word k_need_word
  have b_need_word := F_need_word.binds (ps := ["width", "value"]) fun _ _ _ _ _ _ us hl => match us, hl with | [_, _], _ => rfl
  have F_shifted := fun_mk (st := s_shifted) l_shifted c_shifted k_shifted
  have b_shifted := F_shifted.binds (ps := ["value", "width", "shift"]) fun _ _ _ _ _ _ us hl => match us, hl with | [_, _, _], _ => rfl
  have F_need_step := fun_mk (st := s_need_step) l_need_step c_need_step k_need_step
  have b_need_step := F_need_step.binds (ps := ["width", "step"]) fun _ _ _ _ _ _ us hl => match us, hl with | [_, _], _ => rfl
  have F_Blend_constant := fun_mk (st := s_Blend_constant) l_Blend_constant c_Blend_constant k_Blend_constant
  have b_Blend_constant := F_Blend_constant.binds (ps := ["cls", "width", "value"]) fun _ _ _ _ _ _ us hl => match us, hl with | [_, _, _], _ => rfl
  have F_Blend_is_constant := fun_mk (st := s_Blend_is_constant) l_Blend_is_constant c_Blend_is_constant k_Blend_is_constant
  have b_Blend_is_constant := F_Blend_is_constant.binds (ps := ["self"]) fun _ _ _ _ _ _ us hl => match us, hl with | [_], _ => rfl
  have F_Blend___call__ := fun_mk (st := s_Blend___call__) l_Blend___call__ c_Blend___call__ k_Blend___call__
  have b_Blend___call__ := F_Blend___call__.binds (ps := ["self", "value"]) fun _ _ _ _ _ _ us hl => match us, hl with | [_, _], _ => rfl
  have F_Blend___and__ := fun_mk (st := s_Blend___and__) l_Blend___and__ c_Blend___and__ k_Blend___and__
  have b_Blend___and__ := F_Blend___and__.binds (ps := ["self", "other"]) fun _ _ _ _ _ _ us hl => match us, hl with | [_, _], _ => rfl
  have F_Blend___rand__ := fun_mk (st := s_Blend___rand__) l_Blend___rand__ c_Blend___rand__ k_Blend___rand__
  have b_Blend___rand__ := F_Blend___rand__.binds (ps := ["self", "other"]) fun _ _ _ _ _ _ us hl => match us, hl with | [_, _], _ => rfl
  have F_Blend___or__ := fun_mk (st := s_Blend___or__) l_Blend___or__ c_Blend___or__ k_Blend___or__
  have b_Blend___or__ := F_Blend___or__.binds (ps := ["self", "other"]) fun _ _ _ _ _ _ us hl => match us, hl with | [_, _], _ => rfl
  have F_Blend___ror__ := fun_mk (st := s_Blend___ror__) l_Blend___ror__ c_Blend___ror__ k_Blend___ror__
  have b_Blend___ror__ := F_Blend___ror__.binds (ps := ["self", "other"]) fun _ _ _ _ _ _ us hl => match us, hl with | [_, _], _ => rfl
  have F_Blend___xor__ := fun_mk (st := s_Blend___xor__) l_Blend___xor__ c_Blend___xor__ k_Blend___xor__
  have b_Blend___xor__ := F_Blend___xor__.binds (ps := ["self", "other"]) fun _ _ _ _ _ _ us hl => match us, hl with | [_, _], _ => rfl
  have F_Blend___rxor__ := fun_mk (st := s_Blend___rxor__) l_Blend___rxor__ c_Blend___rxor__ k_Blend___rxor__
  have b_Blend___rxor__ := F_Blend___rxor__.binds (ps := ["self", "other"]) fun _ _ _ _ _ _ us hl => match us, hl with | [_, _], _ => rfl
  have F_Blend___invert__ := fun_mk (st := s_Blend___invert__) l_Blend___invert__ c_Blend___invert__ k_Blend___invert__
  have b_Blend___invert__ := F_Blend___invert__.binds (ps := ["self"]) fun _ _ _ _ _ _ us hl => match us, hl with | [_], _ => rfl
  have F_Blend___lshift__ := fun_mk (st := s_Blend___lshift__) l_Blend___lshift__ c_Blend___lshift__ k_Blend___lshift__
  have b_Blend___lshift__ := F_Blend___lshift__.binds (ps := ["self", "other"]) fun _ _ _ _ _ _ us hl => match us, hl with | [_, _], _ => rfl
  have F_Blend___rshift__ := fun_mk (st := s_Blend___rshift__) l_Blend___rshift__ c_Blend___rshift__ k_Blend___rshift__
  have b_Blend___rshift__ := F_Blend___rshift__.binds (ps := ["self", "other"]) fun _ _ _ _ _ _ us hl => match us, hl with | [_, _], _ => rfl
  have F_Blend___repr__ := fun_mk (st := s_Blend___repr__) l_Blend___repr__ c_Blend___repr__ k_Blend___repr__
  have b_Blend___repr__ := F_Blend___repr__.binds (ps := ["self"]) fun _ _ _ _ _ _ us hl => match us, hl with | [_], _ => rfl
  have F_Blend_sources := fun_mk (st := s_Blend_sources) l_Blend_sources c_Blend_sources k_Blend_sources
  have b_Blend_sources := F_Blend_sources.binds (ps := ["self"]) fun _ _ _ _ _ _ us hl => match us, hl with | [_], _ => rfl
  have F_moved := fun_mk (st := s_moved) l_moved c_moved k_moved
  have b_moved := F_moved.binds (ps := ["blend", "step"]) fun _ _ _ _ _ _ us hl => match us, hl with | [_, _], _ => rfl
  have F__law_pen := fun_mk (st := s__law_pen) l__law_pen c__law_pen k__law_pen
  have b__law_pen := F__law_pen.binds (ps := ["_law_script"]) fun _ _ _ _ _ _ us hl => match us, hl with | [_], _ => rfl
  have F__law_draw := fun_mk (st := s__law_draw) l__law_draw c__law_draw k__law_draw
  have b__law_draw := F__law_draw.binds (ps := ["_law_pen_here", "_law_many"]) fun _ _ _ _ _ _ us hl => match us, hl with | [_, _], _ => rfl
  have F__law_word := fun_mk (st := s__law_word) l__law_word c__law_word k__law_word
  have b__law_word := F__law_word.binds (ps := ["_law_pen_here", "_law_width"]) fun _ _ _ _ _ _ us hl => match us, hl with | [_, _], _ => rfl
  have F__law_top := fun_mk (st := s__law_top) l__law_top c__law_top k__law_top
  have b__law_top := F__law_top.binds (ps := ["_law_width"]) fun _ _ _ _ _ _ us hl => match us, hl with | [_], _ => rfl
  have F__law_moved := fun_mk (st := s__law_moved) l__law_moved c__law_moved k__law_moved
  have b__law_moved := F__law_moved.binds (ps := ["_law_width", "_law_value", "_law_step_here"]) fun _ _ _ _ _ _ us hl => match us, hl with | [_, _, _], _ => rfl
  have F__law_done := fun_mk (st := s__law_done) l__law_done c__law_done k__law_done
  have b__law_done := F__law_done.binds (ps := ["_law_width", "_law_steps", "_law_value"]) fun _ _ _ _ _ _ us hl => match us, hl with | [_, _, _], _ => rfl
  have F__law_begun := fun_mk (st := s__law_begun) l__law_begun c__law_begun k__law_begun
  have b__law_begun := F__law_begun.binds (ps := ["_law_pen_here", "_law_width"]) fun _ _ _ _ _ _ us hl => match us, hl with | [_, _], _ => rfl
  have F__law_step := fun_mk (st := s__law_step) l__law_step c__law_step k__law_step
  have b__law_step := F__law_step.binds (ps := ["_law_pen_here", "_law_blend"]) fun _ _ _ _ _ _ us hl => match us, hl with | [_, _], _ => rfl
  have F__law_normal := fun_mk (st := s__law_normal) l__law_normal c__law_normal k__law_normal
  have b__law_normal := F__law_normal.binds (ps := ["_law_width", "_law_steps"]) fun _ _ _ _ _ _ us hl => match us, hl with | [_, _], _ => rfl
  have F__law_right := fun_mk (st := s__law_right) l__law_right c__law_right k__law_right
  have b__law_right := F__law_right.binds (ps := ["_law_blend", "_law_width", "_law_steps", "_law_words"]) fun _ _ _ _ _ _ us hl => match us, hl with | [_, _, _, _], _ => rfl
  have F_law := fun_mk (st := s_law) l_law c_law k_law
  have b_law := F_law.binds (ps := ["_law_script"]) fun _ _ _ _ _ _ us hl => match us, hl with | [_], _ => rfl

  have cB : Cls K C_Blend := ⟨pg_Blend, hd_Blend, po_Blend, sa_Blend⟩
  have T0 : Txt mg := {
    z_int := PySem.W.mg_none_of X G z_int, z_bool := PySem.W.mg_none_of X G z_bool, z_abs := PySem.W.mg_none_of X G z_abs, z_len := PySem.W.mg_none_of X G z_len, z_list := PySem.W.mg_none_of X G z_list, z_str := PySem.W.mg_none_of X G z_str
    z_range := PySem.W.mg_none_of X G z_range, z_isinstance := PySem.W.mg_none_of X G z_isinstance, z_repr := PySem.W.mg_none_of X G z_repr, z_sorted := PySem.W.mg_none_of X G z_sorted }
  have T : TxtB K mg C_Blend aW := {
    toTxt := T0, cl := cB, n_width := n_Blend_width, n_shift := n_Blend_shift, n_keep := n_Blend_keep, n_flip := n_Blend_flip, mg_Blend := PySem.W.mg_of X G aC_Blend, mg_WIDTHS := PySem.W.mg_of X G aWd
    widths := sqK lWd (by simp) (.cons ⟨_, rfl⟩ (.cons ⟨_, rfl⟩ (.cons ⟨_, rfl⟩ .nil))) }
  have OX0 : OexC K e0 := ⟨⟨nm_E0, qq_E0, N_E0, bs_E0, bm_E0, sn_E0, sub_E0, ab_E0, col_E0, dd_E0, k0_E0, k1_E0, k2_E0, k3_E0, k5_E0, lkE0.trans (congrArg some lkF0), rvE0⟩, saE0, xs0, tyE0, kpE0⟩
  have SF0 : KX.SupFn K l.prog fI0 (PySem.W.ksFn "__init__" "InvalidWidth.__init__" (defArgs s_I0) (defBody s_I0) (defScope s_I0) .none kV_I0 dc_I0 pm_I0 an_I0 (.ref cda0) ct_I0 ccell0) e0 "value" "value" := {
    ex := ⟨"InvalidWidth.__init__", defArgs s_I0, defScope s_I0, .none, kV_I0, dc_I0, pm_I0, ct_I0, oc_I0, ccl_I0, cl_I0, an_I0, od_I0, cdd_I0, cld_I0, sl_I0, ccs_I0, csl_I0, cda0, ccell0, vs_I0, file_I0, tf_I0, _, _, _, _, _, _, _, _, _, _, _, _, _, _, rfl, lIK0, cIK0, lcd0, vsI0, fiI0, lcc0, rfl, rfl, rfl, rfl, rfl, by decide +kernel, free_only (by decide +kernel), rfl, rfl, rfl, rfl, fun en => rfl⟩
    top := tpI, nv := ⟨by decide, by decide, by decide⟩, opq := opI, sub := sbI0, ve := veI0, sup := suI0, nof := xv0 }
  have OX2 : OexC K e2 := ⟨⟨nm_E2, qq_E2, N_E2, bs_E2, bm_E2, sn_E2, sub_E2, ab_E2, col_E2, dd_E2, k0_E2, k1_E2, k2_E2, k3_E2, k5_E2, lkE2.trans (congrArg some lkF2), rvE2⟩, saE2, xs2, tyE2, kpE2⟩
  have SF2 : KX.SupFn K l.prog fI2 (PySem.W.ksFn "__init__" "InvalidWord.__init__" (defArgs s_I2) (defBody s_I2) (defScope s_I2) .none kV_I2 dc_I2 pm_I2 an_I2 (.ref cda2) ct_I2 ccell2) e2 "value" "value" := {
    ex := ⟨"InvalidWord.__init__", defArgs s_I2, defScope s_I2, .none, kV_I2, dc_I2, pm_I2, ct_I2, oc_I2, ccl_I2, cl_I2, an_I2, od_I2, cdd_I2, cld_I2, sl_I2, ccs_I2, csl_I2, cda2, ccell2, vs_I2, file_I2, tf_I2, _, _, _, _, _, _, _, _, _, _, _, _, _, _, rfl, lIK2, cIK2, lcd2, vsI2, fiI2, lcc2, rfl, rfl, rfl, rfl, rfl, by decide +kernel, free_only (by decide +kernel), rfl, rfl, rfl, rfl, fun en => rfl⟩
    top := tpI, nv := ⟨by decide, by decide, by decide⟩, opq := opI, sub := sbI2, ve := veI2, sup := suI2, nof := xv2 }
  have OX3 : OexC K e3 := ⟨⟨nm_E3, qq_E3, N_E3, bs_E3, bm_E3, sn_E3, sub_E3, ab_E3, col_E3, dd_E3, k0_E3, k1_E3, k2_E3, k3_E3, k5_E3, lkE3.trans (congrArg some lkF3), rvE3⟩, saE3, xs3, tyE3, kpE3⟩
  have SF3 : KX.SupFn K l.prog fI3 (PySem.W.ksFn "__init__" "InvalidShift.__init__" (defArgs s_I3) (defBody s_I3) (defScope s_I3) .none kV_I3 dc_I3 pm_I3 an_I3 (.ref cda3) ct_I3 ccell3) e3 "value" "value" := {
    ex := ⟨"InvalidShift.__init__", defArgs s_I3, defScope s_I3, .none, kV_I3, dc_I3, pm_I3, ct_I3, oc_I3, ccl_I3, cl_I3, an_I3, od_I3, cdd_I3, cld_I3, sl_I3, ccs_I3, csl_I3, cda3, ccell3, vs_I3, file_I3, tf_I3, _, _, _, _, _, _, _, _, _, _, _, _, _, _, rfl, lIK3, cIK3, lcd3, vsI3, fiI3, lcc3, rfl, rfl, rfl, rfl, rfl, by decide +kernel, free_only (by decide +kernel), rfl, rfl, rfl, rfl, fun en => rfl⟩
    top := tpI, nv := ⟨by decide, by decide, by decide⟩, opq := opI, sub := sbI3, ve := veI3, sup := suI3, nof := xv3 }

  refine ⟨PySem.W.fnOf "law" "law" (defArgs s_law) (defBody s_law) (defScope s_law) .none kV_law dc_law pm_law an_law cd_law ct_law, fun s v => .of_eq rfl, fun base _ _ => ?_⟩
  have em0 : KX.ErrMk l.prog w K mg base e0 "InvalidWidth" "value" := ⟨fI0, _, "value", OX0, inE0, tiE0, KX.sup_ok SF0 OX0 (PySem.W.mg_none_of X G z_super) (by decide +kernel), .all fun us hl => (match us, hl with | [_, _], _ => rfl), PySem.W.mg_of X G aE0⟩
  have em2 : KX.ErrMk l.prog w K mg base e2 "InvalidWord" "value" := ⟨fI2, _, "value", OX2, inE2, tiE2, KX.sup_ok SF2 OX2 (PySem.W.mg_none_of X G z_super) (by decide +kernel), .all fun us hl => (match us, hl with | [_, _], _ => rfl), PySem.W.mg_of X G aE2⟩
  have em3 : KX.ErrMk l.prog w K mg base e3 "InvalidShift" "value" := ⟨fI3, _, "value", OX3, inE3, tiE3, KX.sup_ok SF3 OX3 (PySem.W.mg_none_of X G z_super) (by decide +kernel), .all fun us hl => (match us, hl with | [_, _], _ => rfl), PySem.W.mg_of X G aE3⟩
  have FD : FunD K "__init__" "Blend.__init__" (defArgs s_Blend___init__) (defBody s_Blend___init__) (defScope s_Blend___init__) [.int 0, .non, .int 0] [] f_Blend___init__ _ := ⟨⟨_, _, _, _, _, _, _, _, _, _, rfl, l_Blend___init__, c_Blend___init__, .inr ⟨by simp, DT_Blend___init__, _, [.int 0 tk_Blend___init___0, .none, .int 0 tk_Blend___init___2], _, rfl, dt_Blend___init__, rfl, .cons ⟨_, rfl⟩ (.cons rfl (.cons ⟨_, rfl⟩ .nil))⟩, .inl rfl⟩, k_Blend___init__⟩
  obtain ⟨ds5, vd5, bd5⟩ := FD.binds1 (ps := ["self", "width", "shift", "keep", "flip"]) 5 3 (by simp) rfl fun T kV doc pm an cdv ct us its hu hi => match us, its, hu, hi with
    | [_, _, _, _, _], [_, _, _], _, _ => ⟨_, rfl, rfl⟩
  obtain rfl : ds5 = [] := by
    cases vd5
    rfl
  obtain ⟨ds2, vd2, bd2⟩ := FD.binds1 (ps := ["self", "width", "shift", "keep", "flip"]) 2 0 (by simp) rfl fun T kV doc pm an cdv ct us its hu hi => match us, its, hu, hi with
    | [_, _], [_, _, _], _, _ => ⟨_, rfl, rfl⟩
  have cI : KB.Callee l.prog w K mg base CX0 1 "is_integer" ["value"] (spInt) := ⟨⟨_, _, ok_int F_is_integer T0, PySem.W.mg_of X G a_is_integer, k_is_integer, b_is_integer⟩⟩
  have cN1 : KB.Callee l.prog w K mg base (L2.CX l.prog w) 3 "need_width" ["width"] (spNW e0) := ⟨⟨_, _, ok_nw F_need_width T em0 cI, PySem.W.mg_of X G a_need_width, k_need_width, b_need_width⟩⟩
  have cO1 : KB.Callee l.prog w K mg base CX0 1 "ones" ["width"] (spOnes) := ⟨⟨_, _, ok_ones F_ones, PySem.W.mg_of X G a_ones, k_ones, b_ones⟩⟩
  have cS : KB.Callee l.prog w K mg base CX0 2 "shifted" ["value", "width", "shift"] (spSh) := ⟨⟨_, _, ok_sh F_shifted cO1, PySem.W.mg_of X G a_shifted, k_shifted, b_shifted⟩⟩
  have cW : KB.Callee l.prog w K mg base CX0 4 "is_word" ["width", "value"] (spIsWord) := ⟨⟨_, _, ok_isword (C := C_Blend) (aW := aW) F_is_word cN1 cI cO1, PySem.W.mg_of X G a_is_word, k_is_word, b_is_word⟩⟩
  have cD : KB.Callee l.prog w K mg base (L2.CX l.prog w) 5 "need_word" ["width", "value"] (spNeed e2) := ⟨⟨_, _, ok_need F_need_word em2 cW, PySem.W.mg_of X G a_need_word, k_need_word, b_need_word⟩⟩
  have okb : FnOk l.prog w K mg base (L2.CX l.prog w) 6 f_Blend___init__ _ ["self", "width", "shift", "keep", "flip"] (spBlend C_Blend e0 e3 e2) := ok_blend FD T em3 cN1 cI cD cO1 cS
  have mkB : Mk K C_Blend f_Blend___init__ := ⟨mk_Blend, a_Blend___init__, i_Blend___init__, kc_Blend⟩
  have ci : CalleeI l.prog w K mg base (L2.CX l.prog w) 6 C_Blend "Blend" ["self", "width", "shift", "keep", "flip"] (spBlend C_Blend e0 e3 e2) := ⟨⟨_, _, okb, mkB, T.mg_Blend, bd5⟩⟩
  have cd1 : KC.CalleeID l.prog w K mg base (L2.CX l.prog w) 6 C_Blend "Blend" ["self", "width", "shift", "keep", "flip"] (spBlend C_Blend e0 e3 e2) [.int 0, .non, .int 0] := ⟨⟨_, _, ds2, okb, mkB, T.mg_Blend, bd2, vd2⟩⟩
  have oc : KC.OwnC l.prog w K mg base (L2.CX l.prog w) 6 C_Blend ["self", "value"] (spBCall C_Blend e2) := ⟨⟨_, _, a_Blend___call__, i_Blend___call__, fnC, ok_bcall F_Blend___call__ T cD cS, b_Blend___call__⟩⟩
  have cSt : KB.Callee l.prog w K mg base (L2.CX l.prog w) 3 "need_step" ["width", "step"] (spStepN e3) := ⟨⟨_, _, ok_step F_need_step em3 cI, PySem.W.mg_of X G a_need_step, k_need_step, b_need_step⟩⟩
  have cM1 : KB.Callee l.prog w K mg base CX0 8 "moved" ["blend", "step"] (spMoved C_Blend) := ⟨⟨_, _, ok_moved F_moved T cS ci, PySem.W.mg_of X G a_moved, k_moved, b_moved⟩⟩
  have orp : OwnM l.prog w K mg base 1 C_Blend "__repr__" ["self"] (spBRepr C_Blend) := ⟨⟨_, _, a_Blend___repr__, i_Blend___repr__, ok_brepr F_Blend___repr__ T, b_Blend___repr__⟩⟩
  have ok_and_ : FnOk l.prog w K mg base (L2.CX l.prog w) 8 f_Blend___and__ _ ["self", "other"] (spBin C_Blend e2 kAnd fAnd) := ok_andB F_Blend___and__ T cD ci
  have bdand : KR.OwnBD l.prog w K mg base (L2.CX l.prog w) 8 C_Blend .BitAnd ["self", "other"] (spBin C_Blend e2 kAnd fAnd) := ⟨⟨_, _, _, by decide, sfB, d_and, i_Blend___and__, r_and, .inr ⟨_, rfl⟩, ok_and_, b_Blend___and__⟩⟩
  have brand : KR.OwnBR l.prog w K mg base (L2.CX l.prog w) 8 C_Blend .BitAnd ["self", "other"] (spBin C_Blend e2 kAnd fAnd) := ⟨⟨_, _, _, by decide, sfB, d_and, i_Blend___rand__, r_and, sub_int, sub_bool, sub_dict, ok_rand F_Blend___rand__ T cD ci, b_Blend___rand__⟩⟩
  have inand : KW.OwnIn l.prog w K mg base (L2.CX l.prog w) 8 C_Blend .BitAnd ["self", "other"] (spBin C_Blend e2 kAnd fAnd) := ⟨⟨_, _, _, _, _, clB, d_and, i_Blend___and__, r_and, .inr ⟨_, rfl⟩, i1_and, i2_and, sbI_int, i3_and, i4_and, ok_and_, b_Blend___and__⟩⟩
  have ok_or_ : FnOk l.prog w K mg base (L2.CX l.prog w) 8 f_Blend___or__ _ ["self", "other"] (spBin C_Blend e2 kOr fOr) := ok_or F_Blend___or__ T cD cO1 ci
  have bdor : KR.OwnBD l.prog w K mg base (L2.CX l.prog w) 8 C_Blend .BitOr ["self", "other"] (spBin C_Blend e2 kOr fOr) := ⟨⟨_, _, _, by decide, sfB, d_or, i_Blend___or__, r_or, .inr ⟨_, rfl⟩, ok_or_, b_Blend___or__⟩⟩
  have bror : KR.OwnBR l.prog w K mg base (L2.CX l.prog w) 8 C_Blend .BitOr ["self", "other"] (spBin C_Blend e2 kOr fOr) := ⟨⟨_, _, _, by decide, sfB, d_or, i_Blend___ror__, r_or, sub_int, sub_bool, sub_dict, ok_ror F_Blend___ror__ T cD cO1 ci, b_Blend___ror__⟩⟩
  have inor : KW.OwnIn l.prog w K mg base (L2.CX l.prog w) 8 C_Blend .BitOr ["self", "other"] (spBin C_Blend e2 kOr fOr) := ⟨⟨_, _, _, _, _, clB, d_or, i_Blend___or__, r_or, .inr ⟨_, rfl⟩, i1_or, i2_or, sbI_int, i3_or, i4_or, ok_or_, b_Blend___or__⟩⟩
  have ok_xor_ : FnOk l.prog w K mg base (L2.CX l.prog w) 8 f_Blend___xor__ _ ["self", "other"] (spBin C_Blend e2 kXor fXor) := ok_xor F_Blend___xor__ T cD ci
  have bdxor : KR.OwnBD l.prog w K mg base (L2.CX l.prog w) 8 C_Blend .BitXor ["self", "other"] (spBin C_Blend e2 kXor fXor) := ⟨⟨_, _, _, by decide, sfB, d_xor, i_Blend___xor__, r_xor, .inr ⟨_, rfl⟩, ok_xor_, b_Blend___xor__⟩⟩
  have brxor : KR.OwnBR l.prog w K mg base (L2.CX l.prog w) 8 C_Blend .BitXor ["self", "other"] (spBin C_Blend e2 kXor fXor) := ⟨⟨_, _, _, by decide, sfB, d_xor, i_Blend___rxor__, r_xor, sub_int, sub_bool, sub_dict, ok_rxor F_Blend___rxor__ T cD ci, b_Blend___rxor__⟩⟩
  have ok_shl_ : FnOk l.prog w K mg base (L2.CX l.prog w) 9 f_Blend___lshift__ _ ["self", "other"] (spShl C_Blend e3) := ok_shl F_Blend___lshift__ T cSt cM1
  have bdshl : KR.OwnBD l.prog w K mg base (L2.CX l.prog w) 9 C_Blend .LShift ["self", "other"] (spShl C_Blend e3) := ⟨⟨_, _, _, by decide, sfB, d_shl, i_Blend___lshift__, r_shl, q_shl, ok_shl_, b_Blend___lshift__⟩⟩
  have inshl : KW.OwnIn l.prog w K mg base (L2.CX l.prog w) 9 C_Blend .LShift ["self", "other"] (spShl C_Blend e3) := ⟨⟨_, _, _, _, _, clB, d_shl, i_Blend___lshift__, r_shl, q_shl, i1_shl, i2_shl, sbI_int, i3_shl, i4_shl, ok_shl_, b_Blend___lshift__⟩⟩
  have ok_shr_ : FnOk l.prog w K mg base (L2.CX l.prog w) 9 f_Blend___rshift__ _ ["self", "other"] (spShr C_Blend e3) := ok_shr F_Blend___rshift__ T cSt cM1
  have bdshr : KR.OwnBD l.prog w K mg base (L2.CX l.prog w) 9 C_Blend .RShift ["self", "other"] (spShr C_Blend e3) := ⟨⟨_, _, _, by decide, sfB, d_shr, i_Blend___rshift__, r_shr, q_shr, ok_shr_, b_Blend___rshift__⟩⟩
  have uB : KW.OwnU l.prog w K mg base CX0 8 C_Blend ["self"] (spInv C_Blend) := ⟨⟨_, _, a_Blend___invert__, i_Blend___invert__, ok_inv F_Blend___invert__ T cO1 ci, b_Blend___invert__⟩⟩
  have pI : KW.OwnP l.prog w K mg base 1 C_Blend "is_constant" ["self"] (spIsC C_Blend) := ⟨⟨p_Blend_is_constant, f_Blend_is_constant, _, ⟨pa_Blend_is_constant, pb_Blend_is_constant, pc_Blend_is_constant, ⟨_, pd_Blend_is_constant⟩⟩, ok_isc F_Blend_is_constant T, b_Blend_is_constant⟩, cB⟩
  have gS : KU.CalleeGM l.prog w K mg base 1 C_Blend "sources" ["self"] (spSrc C_Blend) := ⟨⟨_, _, ok_src l_Blend_sources c_Blend_sources T, ⟨a_Blend_sources, i_Blend_sources, k_Blend_sources⟩, b_Blend_sources⟩, cB⟩
  have okK : FnOk l.prog w K mg base (L2.CX l.prog w) 8 f_Blend_constant _ ["cls", "width", "value"] (spConst C_Blend e0 e2) := ok_const F_Blend_constant T cN1 cD ci
  have cmC : KP.CalleeC l.prog w K mg base (L2.CX l.prog w) 8 C_Blend "constant" (spConst C_Blend e0 e2) := ⟨⟨_, p_Blend_constant, f_Blend_constant, ⟨rdB, gaB⟩, ⟨a_Blend_constant, ⟨_, rc_Blend_constant⟩, fi_Blend_constant⟩, fnR_of okK b_Blend_constant⟩⟩
  have cd : KB.Callee l.prog w K mg base CX0 1 "_law_draw" ["_law_pen_here", "_law_many"] spDraw := ⟨⟨_, _, ok_draw F__law_draw T0, PySem.W.mg_of X G a__law_draw, k__law_draw, b__law_draw⟩⟩
  have cp : KB.Callee l.prog w K mg base CX0 1 "_law_pen" ["_law_script"] (spPen K) := ⟨⟨_, _, ok_pen F__law_pen T0, PySem.W.mg_of X G a__law_pen, k__law_pen, b__law_pen⟩⟩
  have cw : KB.Callee l.prog w K mg base CX0 2 "_law_word" ["_law_pen_here", "_law_width"] spWord := ⟨⟨_, _, ok_word F__law_word T0 cd, PySem.W.mg_of X G a__law_word, k__law_word, b__law_word⟩⟩
  have ct : KB.Callee l.prog w K mg base CX0 1 "_law_top" ["_law_width"] spTop := ⟨⟨_, _, ok_top F__law_top, PySem.W.mg_of X G a__law_top, k__law_top, b__law_top⟩⟩
  have cm : KB.Callee l.prog w K mg base CX0 2 "_law_moved" ["_law_width", "_law_value", "_law_step_here"] spMov := ⟨⟨_, _, ok_mov F__law_moved ct, PySem.W.mg_of X G a__law_moved, k__law_moved, b__law_moved⟩⟩
  have cdn : KB.Callee l.prog w K mg base CX0 3 "_law_done" ["_law_width", "_law_steps", "_law_value"] spDone := ⟨⟨_, _, ok_done F__law_done ct cm, PySem.W.mg_of X G a__law_done, k__law_done, b__law_done⟩⟩
  have cbg : KB.Callee l.prog w K mg base CX0 9 "_law_begun" ["_law_pen_here", "_law_width"] (spBegun C_Blend) := ⟨⟨_, _, ok_begun F__law_begun T cd1 ci cmC ct cw cd, PySem.W.mg_of X G a__law_begun, k__law_begun, b__law_begun⟩⟩
  have cst : KB.Callee l.prog w K mg base CX0 10 "_law_step" ["_law_pen_here", "_law_blend"] (spStep C_Blend) := ⟨⟨_, _, ok_step1 F__law_step T bdand bdor bdxor brand bror brxor bdshl bdshr uB inand inor inshl cw cd, PySem.W.mg_of X G a__law_step, k__law_step, b__law_step⟩⟩
  have cno : KB.Callee l.prog w K mg base CX0 4 "_law_normal" ["_law_width", "_law_steps"] spNormal := ⟨⟨_, _, ok_normal F__law_normal T0 cdn, PySem.W.mg_of X G a__law_normal, k__law_normal, b__law_normal⟩⟩
  have cri : KG.CalleeG l.prog w K mg base CX0 8 "_law_right" ["_law_blend", "_law_width", "_law_steps", "_law_words"] (spRight C_Blend) := ⟨⟨_, _, ok_right F__law_right T oc pI gS orp ct cdn cno, PySem.W.mg_of X G a__law_right, k__law_right, b__law_right⟩⟩
  exact ok_law F_law T0 cbg cst cri cw cd cp
end K02


open PySem PySem.W PyProof.Rows
set_option maxRecDepth 100000 in
set_option maxHeartbeats 0 in
theorem PySem.Challenge.cw_keptbits_k02_blends_by_operations_holds : PySem.Challenge.rw_keptbits_k02_blends_by_operations.Holds := by
  w_on; o_law; k_head; (case hw => w_witness2)
  k_fill
  refine KG.walkG (l := PySem.Challenge.rw_keptbits_k02_blends_by_operations) (n := 63) (k := 12) (x := "_law_script") (sp := fun w => K02.spLaw _) rfl (by decide) rfl ⟨rfl, by decide, by decide⟩ (fun w h Y => PySem.W.kIn_of Y) ?F (fun _ _ a ns hl hS => ⟨a, ns, rfl, hS, hl, fun _ => rfl⟩)
  case F =>
    intro w mg fa h KX G hmg
    refine' K02.all_mk KX G hmg ?aC_Blend ?pg_Blend ?hd_Blend ?po_Blend ?sa_Blend ?mk_Blend ?kc_Blend ?n_Blend_width ?n_Blend_shift ?n_Blend_keep ?n_Blend_flip ?a_is_integer ?l_is_integer ?c_is_integer ?k_is_integer ?a_need_width ?l_need_width ?c_need_width ?k_need_width ?a_ones ?l_ones ?c_ones ?k_ones ?a_is_word ?l_is_word ?c_is_word ?k_is_word ?a_need_word ?l_need_word ?c_need_word ?k_need_word ?a_shifted ?l_shifted ?c_shifted ?k_shifted ?a_need_step ?l_need_step ?c_need_step ?k_need_step ?a_Blend___init__ ?i_Blend___init__ ?l_Blend___init__ ?dt_Blend___init__ ?c_Blend___init__ ?k_Blend___init__ ?a_Blend_constant ?rc_Blend_constant ?fi_Blend_constant ?l_Blend_constant ?c_Blend_constant ?k_Blend_constant ?pa_Blend_is_constant ?pb_Blend_is_constant ?pc_Blend_is_constant ?pd_Blend_is_constant ?l_Blend_is_constant ?c_Blend_is_constant ?k_Blend_is_constant ?a_Blend___call__ ?i_Blend___call__ ?l_Blend___call__ ?c_Blend___call__ ?k_Blend___call__ ?a_Blend___and__ ?i_Blend___and__ ?l_Blend___and__ ?c_Blend___and__ ?k_Blend___and__ ?a_Blend___rand__ ?i_Blend___rand__ ?l_Blend___rand__ ?c_Blend___rand__ ?k_Blend___rand__ ?a_Blend___or__ ?i_Blend___or__ ?l_Blend___or__ ?c_Blend___or__ ?k_Blend___or__ ?a_Blend___ror__ ?i_Blend___ror__ ?l_Blend___ror__ ?c_Blend___ror__ ?k_Blend___ror__ ?a_Blend___xor__ ?i_Blend___xor__ ?l_Blend___xor__ ?c_Blend___xor__ ?k_Blend___xor__ ?a_Blend___rxor__ ?i_Blend___rxor__ ?l_Blend___rxor__ ?c_Blend___rxor__ ?k_Blend___rxor__ ?a_Blend___invert__ ?i_Blend___invert__ ?l_Blend___invert__ ?c_Blend___invert__ ?k_Blend___invert__ ?a_Blend___lshift__ ?i_Blend___lshift__ ?l_Blend___lshift__ ?c_Blend___lshift__ ?k_Blend___lshift__ ?a_Blend___rshift__ ?i_Blend___rshift__ ?l_Blend___rshift__ ?c_Blend___rshift__ ?k_Blend___rshift__ ?a_Blend___repr__ ?i_Blend___repr__ ?l_Blend___repr__ ?c_Blend___repr__ ?k_Blend___repr__ ?a_Blend_sources ?i_Blend_sources ?l_Blend_sources ?c_Blend_sources ?k_Blend_sources ?a_moved ?l_moved ?c_moved ?k_moved ?a__law_pen ?l__law_pen ?c__law_pen ?k__law_pen ?a__law_draw ?l__law_draw ?c__law_draw ?k__law_draw ?a__law_word ?l__law_word ?c__law_word ?k__law_word ?a__law_top ?l__law_top ?c__law_top ?k__law_top ?a__law_moved ?l__law_moved ?c__law_moved ?k__law_moved ?a__law_done ?l__law_done ?c__law_done ?k__law_done ?a__law_begun ?l__law_begun ?c__law_begun ?k__law_begun ?a__law_step ?l__law_step ?c__law_step ?k__law_step ?a__law_normal ?l__law_normal ?c__law_normal ?k__law_normal ?a__law_right ?l__law_right ?c__law_right ?k__law_right ?a_law ?l_law ?c_law ?k_law ?tyg ?tyt ?aWd ?lWd ?aE0 ?xs0 ?xv0 ?lkE0 ?lkF0 ?rvE0 ?saE0 ?tyE0 ?kpE0 ?inE0 ?tiE0 ?lIK0 ?cIK0 ?lcd0 ?vsI0 ?fiI0 ?lcc0 ?sbI0 ?veI0 ?suI0 ?aE2 ?xs2 ?xv2 ?lkE2 ?lkF2 ?rvE2 ?saE2 ?tyE2 ?kpE2 ?inE2 ?tiE2 ?lIK2 ?cIK2 ?lcd2 ?vsI2 ?fiI2 ?lcc2 ?sbI2 ?veI2 ?suI2 ?aE3 ?xs3 ?xv3 ?lkE3 ?lkF3 ?rvE3 ?saE3 ?tyE3 ?kpE3 ?inE3 ?tiE3 ?lIK3 ?cIK3 ?lcd3 ?vsI3 ?fiI3 ?lcc3 ?sbI3 ?veI3 ?suI3 ?tpI ?opI ?fnC ?sfB ?sub_int ?sub_bool ?sub_dict ?clB ?sbI_int ?rdB ?gaB ?d_and ?r_and ?i1_and ?i2_and ?i3_and ?i4_and ?d_or ?r_or ?i1_or ?i2_or ?i3_or ?i4_or ?d_xor ?r_xor ?d_shl ?r_shl ?q_shl ?i1_shl ?i2_shl ?i3_shl ?i4_shl ?d_shr ?r_shr ?q_shr ?z_int ?z_bool ?z_abs ?z_len ?z_list ?z_str ?z_range ?z_isinstance ?z_repr ?z_sorted ?z_super
    (case aC_Blend => k_is)
    (case pg_Blend => k_is)
    (case hd_Blend => k_is)
    (case po_Blend => k_is)
    (case sa_Blend => k_is)
    (case mk_Blend => k_is)
    (case kc_Blend => k_is)
    (case n_Blend_width => k_is)
    (case n_Blend_shift => k_is)
    (case n_Blend_keep => k_is)
    (case n_Blend_flip => k_is)
    (case a_is_integer => k_is)
    (case l_is_integer => k_is)
    (case c_is_integer => k_is)
    (case k_is_integer => k_is)
    (case a_need_width => k_is)
    (case l_need_width => k_is)
    (case c_need_width => k_is)
    (case k_need_width => k_is)
    (case a_ones => k_is)
    (case l_ones => k_is)
    (case c_ones => k_is)
    (case k_ones => k_is)
    (case a_is_word => k_is)
    (case l_is_word => k_is)
    (case c_is_word => k_is)
    (case k_is_word => k_is)
    (case a_need_word => k_is)
    (case l_need_word => k_is)
    (case c_need_word => k_is)
    (case k_need_word => k_is)
    (case a_shifted => k_is)
    (case l_shifted => k_is)
    (case c_shifted => k_is)
    (case k_shifted => k_is)
    (case a_need_step => k_is)
    (case l_need_step => k_is)
    (case c_need_step => k_is)
    (case k_need_step => k_is)
    (case a_Blend___init__ => k_is)
    (case i_Blend___init__ => k_is)
    (case l_Blend___init__ => k_is)
    (case dt_Blend___init__ => k_is)
    (case c_Blend___init__ => k_is)
    (case k_Blend___init__ => k_is)
    (case a_Blend_constant => k_is)
    (case rc_Blend_constant => k_is)
    (case fi_Blend_constant => k_is)
    (case l_Blend_constant => k_is)
    (case c_Blend_constant => k_is)
    (case k_Blend_constant => k_is)
    (case pa_Blend_is_constant => k_is)
    (case pb_Blend_is_constant => k_is)
    (case pc_Blend_is_constant => k_is)
    (case pd_Blend_is_constant => k_is)
    (case l_Blend_is_constant => k_is)
    (case c_Blend_is_constant => k_is)
    (case k_Blend_is_constant => k_is)
    (case a_Blend___call__ => k_is)
    (case i_Blend___call__ => k_is)
    (case l_Blend___call__ => k_is)
    (case c_Blend___call__ => k_is)
    (case k_Blend___call__ => k_is)
    (case a_Blend___and__ => k_is)
    (case i_Blend___and__ => k_is)
    (case l_Blend___and__ => k_is)
    (case c_Blend___and__ => k_is)
    (case k_Blend___and__ => k_is)
    (case a_Blend___rand__ => k_is)
    (case i_Blend___rand__ => k_is)
    (case l_Blend___rand__ => k_is)
    (case c_Blend___rand__ => k_is)
    (case k_Blend___rand__ => k_is)
    (case a_Blend___or__ => k_is)
    (case i_Blend___or__ => k_is)
    (case l_Blend___or__ => k_is)
    (case c_Blend___or__ => k_is)
    (case k_Blend___or__ => k_is)
    (case a_Blend___ror__ => k_is)
    (case i_Blend___ror__ => k_is)
    (case l_Blend___ror__ => k_is)
    (case c_Blend___ror__ => k_is)
    (case k_Blend___ror__ => k_is)
    (case a_Blend___xor__ => k_is)
    (case i_Blend___xor__ => k_is)
    (case l_Blend___xor__ => k_is)
    (case c_Blend___xor__ => k_is)
    (case k_Blend___xor__ => k_is)
    (case a_Blend___rxor__ => k_is)
    (case i_Blend___rxor__ => k_is)
    (case l_Blend___rxor__ => k_is)
    (case c_Blend___rxor__ => k_is)
    (case k_Blend___rxor__ => k_is)
    (case a_Blend___invert__ => k_is)
    (case i_Blend___invert__ => k_is)
    (case l_Blend___invert__ => k_is)
    (case c_Blend___invert__ => k_is)
    (case k_Blend___invert__ => k_is)
    (case a_Blend___lshift__ => k_is)
    (case i_Blend___lshift__ => k_is)
    (case l_Blend___lshift__ => k_is)
    (case c_Blend___lshift__ => k_is)
    (case k_Blend___lshift__ => k_is)
    (case a_Blend___rshift__ => k_is)
    (case i_Blend___rshift__ => k_is)
    (case l_Blend___rshift__ => k_is)
    (case c_Blend___rshift__ => k_is)
    (case k_Blend___rshift__ => k_is)
    (case a_Blend___repr__ => k_is)
    (case i_Blend___repr__ => k_is)
    (case l_Blend___repr__ => k_is)
    (case c_Blend___repr__ => k_is)
    (case k_Blend___repr__ => k_is)
    (case a_Blend_sources => k_is)
    (case i_Blend_sources => k_is)
    (case l_Blend_sources => k_is)
    (case c_Blend_sources => k_is)
    (case k_Blend_sources => k_is)
    (case a_moved => k_is)
    (case l_moved => k_is)
    (case c_moved => k_is)
    (case k_moved => k_is)
    (case a__law_pen => k_is)
    (case l__law_pen => k_is)
    (case c__law_pen => k_is)
    (case k__law_pen => k_is)
    (case a__law_draw => k_is)
    (case l__law_draw => k_is)
    (case c__law_draw => k_is)
    (case k__law_draw => k_is)
    (case a__law_word => k_is)
    (case l__law_word => k_is)
    (case c__law_word => k_is)
    (case k__law_word => k_is)
    (case a__law_top => k_is)
    (case l__law_top => k_is)
    (case c__law_top => k_is)
    (case k__law_top => k_is)
    (case a__law_moved => k_is)
    (case l__law_moved => k_is)
    (case c__law_moved => k_is)
    (case k__law_moved => k_is)
    (case a__law_done => k_is)
    (case l__law_done => k_is)
    (case c__law_done => k_is)
    (case k__law_done => k_is)
    (case a__law_begun => k_is)
    (case l__law_begun => k_is)
    (case c__law_begun => k_is)
    (case k__law_begun => k_is)
    (case a__law_step => k_is)
    (case l__law_step => k_is)
    (case c__law_step => k_is)
    (case k__law_step => k_is)
    (case a__law_normal => k_is)
    (case l__law_normal => k_is)
    (case c__law_normal => k_is)
    (case k__law_normal => k_is)
    (case a__law_right => k_is)
    (case l__law_right => k_is)
    (case c__law_right => k_is)
    (case k__law_right => k_is)
    (case a_law => k_is)
    (case l_law => k_is)
    (case c_law => k_is)
    (case k_law => k_is)
    (case tyg => k_is)
    (case tyt => k_is)
    (case aWd => k_is)
    (case lWd => k_is)
    (case aE0 => k_is)
    (case xs0 => exact rfl)
    (case xv0 => k_is)
    (case lkE0 => k_is)
    (case lkF0 => exact rfl)
    (case rvE0 => exact rfl)
    (case saE0 => k_is)
    (case tyE0 => exact rfl)
    (case kpE0 => k_is)
    (case inE0 => k_is)
    (case tiE0 => exact rfl)
    (case lIK0 => k_is)
    (case cIK0 => k_is)
    (case lcd0 => k_is)
    (case vsI0 => exact rfl)
    (case fiI0 => exact rfl)
    (case lcc0 => k_is)
    (case sbI0 => k_is)
    (case veI0 => k_is)
    (case suI0 => exact rfl)
    (case aE2 => k_is)
    (case xs2 => exact rfl)
    (case xv2 => k_is)
    (case lkE2 => k_is)
    (case lkF2 => exact rfl)
    (case rvE2 => exact rfl)
    (case saE2 => k_is)
    (case tyE2 => exact rfl)
    (case kpE2 => k_is)
    (case inE2 => k_is)
    (case tiE2 => exact rfl)
    (case lIK2 => k_is)
    (case cIK2 => k_is)
    (case lcd2 => k_is)
    (case vsI2 => exact rfl)
    (case fiI2 => exact rfl)
    (case lcc2 => k_is)
    (case sbI2 => k_is)
    (case veI2 => k_is)
    (case suI2 => exact rfl)
    (case aE3 => k_is)
    (case xs3 => exact rfl)
    (case xv3 => k_is)
    (case lkE3 => k_is)
    (case lkF3 => exact rfl)
    (case rvE3 => exact rfl)
    (case saE3 => k_is)
    (case tyE3 => exact rfl)
    (case kpE3 => k_is)
    (case inE3 => k_is)
    (case tiE3 => exact rfl)
    (case lIK3 => k_is)
    (case cIK3 => k_is)
    (case lcd3 => k_is)
    (case vsI3 => exact rfl)
    (case fiI3 => exact rfl)
    (case lcc3 => k_is)
    (case sbI3 => k_is)
    (case veI3 => k_is)
    (case suI3 => exact rfl)
    (case tpI => exact rfl)
    (case opI => k_is)
    (case fnC => exact rfl)
    (case sfB => exact rfl)
    (case sub_int => exact rfl)
    (case sub_bool => exact rfl)
    (case sub_dict => exact rfl)
    (case clB => (exact ⟨_, rfl, rfl⟩))
    (case sbI_int => exact rfl)
    (case rdB => k_is)
    (case gaB => k_is)
    (case d_and => exact rfl)
    (case r_and => exact rfl)
    (case i1_and => exact rfl)
    (case i2_and => exact rfl)
    (case i3_and => exact rfl)
    (case i4_and => exact rfl)
    (case d_or => exact rfl)
    (case r_or => exact rfl)
    (case i1_or => exact rfl)
    (case i2_or => exact rfl)
    (case i3_or => exact rfl)
    (case i4_or => exact rfl)
    (case d_xor => exact rfl)
    (case r_xor => exact rfl)
    (case d_shl => exact rfl)
    (case r_shl => exact rfl)
    (case q_shl => first | exact .inl rfl | exact .inr ⟨_, rfl⟩)
    (case i1_shl => exact rfl)
    (case i2_shl => exact rfl)
    (case i3_shl => exact rfl)
    (case i4_shl => exact rfl)
    (case d_shr => exact rfl)
    (case r_shr => exact rfl)
    (case q_shr => first | exact .inl rfl | exact .inr ⟨_, rfl⟩)
    (case z_int => k_is)
    (case z_bool => k_is)
    (case z_abs => k_is)
    (case z_len => k_is)
    (case z_list => k_is)
    (case z_str => k_is)
    (case z_range => k_is)
    (case z_isinstance => k_is)
    (case z_repr => k_is)
    (case z_sorted => k_is)
    (case z_super => k_is)

