import PyProof.Rows.All
import Wide.All
import OpenK.AllK
import Wide.FinOn
import HandS.ForMost
import HandS.Evl
import HandS.IsInst
import HandS.ClsMeth
import HandS.Flow
import HandS.TupAny
import HandS.Walk
import HandS.Defaults
import HandS.Deep
import PyProof.ReprReads
import HandS.SlotsOwn
import HandS.MakeKw
import HandS.MakeKwOnly
import HandS.FStr
import HandS.More
import KE.KCallOwn
import PyProof.InstNe
import HandS.ExcInit
import HandS.ExcSuper
import HandS.ExcField
import HandS.ExcIs
import KE.KExcIs
import KE.KIsAll
import KE.KSuper
import KE.KExcSuper
import PyProof.EqKinds
import HandS.Dict
import HandS.SetFor
import HandS.Lambda
import HandS.EndBits
import HandS.EndTab
import HandS.WordsExc
import KE.KNestM
import OpenK.KOps
import KE.KOpsOwn
import HandS.Conv
import KE.BitLaws
import PyProof.Ascii
import PyProof.Rows.ReprOcc
import PyProof.FitsInt
import PyProof.ReprNest
import PyProof.ReprRoads
import PySem.Challenge.RW_keptbits_k05_what_blends_refuse
set_option Elab.async false
set_option linter.all false
set_option maxRecDepth 100000
set_option maxHeartbeats 4000000
/-! KB: own helpers over the hand layer: callees bundled, match, readings as steps. -/
namespace KB
open PySem PySem.Spec PyProof.Rows L2

section
variable {X : Cx}
/-! ### callees -/
structure Callee (P : Program) (w : World) (K : PySem.W.Frag) (mg : Str → Option Value) (base : Heap) (CX : CXT) (k : Nat) (x : Str) (ps : List Str) (sp : Sp) : Prop where
  ex : ∃ (f : Addr) (fd : FuncData), FnOk P w K mg base CX k f fd ps sp ∧ mg x = some (.ref f) ∧ PySem.W.keepIn K (.ref f) = true ∧ Binds K fd ps []
structure CalleeM (P : Program) (w : World) (K : PySem.W.Frag) (mg : Str → Option Value) (base : Heap) (CX : CXT) (k : Nat) (C : Addr) (m : Str) (ps : List Str) (sp : Sp) : Prop where
  ex : ∃ (f : Addr) (fd : FuncData), FnOk P w K mg base CX k f fd ps sp ∧ Meth K C m f ∧ Binds K fd ps []
  cl : Cls K C
structure CalleeI (P : Program) (w : World) (K : PySem.W.Frag) (mg : Str → Option Value) (base : Heap) (CX : CXT) (k : Nat) (C : Addr) (x : Str) (ps : List Str) (sp : Sp) : Prop where
  ex : ∃ (f : Addr) (fd : FuncData), FnOk P w K mg base CX k f fd ps sp ∧ Mk K C f ∧ mg x = some (.ref C) ∧ Binds K fd ps []
theorem pe_callC {CX : CXT} {k : Nat} {x : Str} {ps : List Str} {sp : Sp} {E : XK} {e : Expr} {es : List Expr} {p pos : Pos} {t : TA} (c : Callee X.prog X.w X.K X.mg X.base CX k x ps sp) (hr : Room k X.A) (hg : Gl X x) (hx : Passes CX X E) (ha : PA X (e :: es) t)
    (hdb : (x == ("__debug__" : Str)) = false := by decide) (he : starEach (e :: es) X.env = (false, eval e X.env) :: starEach es X.env := by rfl) (hpl : (backTo pos (starEach es X.env)).any (·.1) = false := by rfl) :
    PE X (.Call (.Name x p) (e :: es) [] pos) (tCall sp [] E t) := by
  obtain ⟨f, fd, F, hm, hk, hb⟩ := c.ex
  exact pe_call F hr hg hm hk hb .nil hx ha hdb he hpl
theorem pe_callC0 {CX : CXT} {k : Nat} {x : Str} {ps : List Str} {sp : Sp} {E : XK} {p pos : Pos} (c : Callee X.prog X.w X.K X.mg X.base CX k x ps sp) (hr : Room k X.A) (hg : Gl X x) (hx : Passes CX X E)
    (hdb : (x == ("__debug__" : Str)) = false := by decide) :
    PE X (.Call (.Name x p) [] [] pos) (tCall sp [] E tNil) := by
  obtain ⟨f, fd, F, hm, hk, hb⟩ := c.ex
  exact pe_call0 F hr hg hm hk hb .nil hx hdb
theorem pe_methC {pl : Sem Bool} {CX : CXT} {k : Nat} {C : Addr} {m : Str} {ps : List Str} {sp : Sp} {E : XK} {o e : Expr} {es : List Expr} {apos pos : Pos} {ta : TE} {t : TA} (c : CalleeM X.prog X.w X.K X.mg X.base CX k C m ps sp) (ho : PE X o ta) (hr : Room k X.A) (hx : Passes CX X E) (ha : PA X (e :: es) t)
    (hst : starEach (e :: es) X.env = (false, eval e X.env) :: starEach es X.env := by rfl) (hpl : (backTo pos (starEach es X.env)).any (·.1) = false := by rfl)
    (ht : eval (.Call (.Attribute o m apos) (e :: es) [] pos) X.env = (do
      let ov ← eval o X.env
      standAt apos.atName
      let (f, first) ← holding [ov] (getMethod ov m pl)
      callWith pos f first (backTo pos (starEach (e :: es) X.env)) (backToKw pos (keywordEach [] X.env))) := by rfl) :
    PE X (.Call (.Attribute o m apos) (e :: es) [] pos) (tMeth C m sp [] E ta t) := by
  obtain ⟨f, fd, F, hm, hb⟩ := c.ex
  exact pe_meth ho c.cl hm F hr hb .nil hx ha hst hpl ht
theorem pe_methC0 {pl : Sem Bool} {CX : CXT} {k : Nat} {C : Addr} {m : Str} {ps : List Str} {sp : Sp} {E : XK} {o : Expr} {apos pos : Pos} {ta : TE} (c : CalleeM X.prog X.w X.K X.mg X.base CX k C m ps sp) (ho : PE X o ta) (hr : Room k X.A) (hx : Passes CX X E)
    (ht : eval (.Call (.Attribute o m apos) [] [] pos) X.env = (do
      let ov ← eval o X.env
      standAt apos.atName
      let (f, first) ← holding [ov] (getMethod ov m pl)
      callWith pos f first [] (backToKw pos (keywordEach [] X.env))) := by rfl) :
    PE X (.Call (.Attribute o m apos) [] [] pos) (tMeth C m sp [] E ta tNil) := by
  obtain ⟨f, fd, F, hm, hb⟩ := c.ex
  exact pe_meth0 ho c.cl hm F hr hb .nil hx ht
theorem pe_makeC {CX : CXT} {k : Nat} {C : Addr} {x : Str} {ps : List Str} {sp : Sp} {E : XK} {e : Expr} {es : List Expr} {p pos : Pos} {t : TA} (c : CalleeI X.prog X.w X.K X.mg X.base CX k C x ps sp) (hr : Room (k + 1) X.A) (hg : Gl X x) (hx : Passes CX X E) (ha : PA X (e :: es) t)
    (hdb : (x == ("__debug__" : Str)) = false := by decide) (he : starEach (e :: es) X.env = (false, eval e X.env) :: starEach es X.env := by rfl) (hpl : (backTo pos (starEach es X.env)).any (·.1) = false := by rfl) :
    PE X (.Call (.Name x p) (e :: es) [] pos) (tMake C sp [] E t) := by
  obtain ⟨f, fd, F, M, hm, hb⟩ := c.ex
  exact pe_make M F hr hg hm hb .nil hx ha hdb he hpl

/-- a def with defaults, called without them; called by keywords -/
structure CalleeD (P : Program) (w : World) (K : PySem.W.Frag) (mg : Str → Option Value) (base : Heap) (CX : CXT) (k : Nat) (x : Str) (ps : List Str) (sp : Sp) (dvs : List V) : Prop where
  ex : ∃ (f : Addr) (fd : FuncData) (ds : List Value), FnOk P w K mg base CX k f fd ps sp ∧ mg x = some (.ref f) ∧ PySem.W.keepIn K (.ref f) = true ∧ Binds K fd ps ds ∧ Vals dvs ds
structure CalleeKw (P : Program) (w : World) (K : PySem.W.Frag) (mg : Str → Option Value) (base : Heap) (CX : CXT) (k : Nat) (x : Str) (ps : List Str) (sp : Sp) (n : Nat) (ks : List Str) (gV : List V → List V → List V) : Prop where
  ex : ∃ (f : Addr) (fd : FuncData) (g : List Value → List Value → List Value), FnOk P w K mg base CX k f fd ps sp ∧ mg x = some (.ref f) ∧ PySem.W.keepIn K (.ref f) = true ∧ KBn K fd ps n ks g gV
theorem pe_callD {CX : CXT} {k : Nat} {x : Str} {ps : List Str} {sp : Sp} {dvs : List V} {E : XK} {e : Expr} {es : List Expr} {p pos : Pos} {t : TA} (c : CalleeD X.prog X.w X.K X.mg X.base CX k x ps sp dvs) (hr : Room k X.A) (hg : Gl X x) (hx : Passes CX X E) (ha : PA X (e :: es) t)
    (hdb : (x == ("__debug__" : Str)) = false := by decide) (he : starEach (e :: es) X.env = (false, eval e X.env) :: starEach es X.env := by rfl) (hpl : (backTo pos (starEach es X.env)).any (·.1) = false := by rfl) :
    PE X (.Call (.Name x p) (e :: es) [] pos) (tCall sp dvs E t) := by
  obtain ⟨f, fd, ds, F, hm, hk, hb, hd⟩ := c.ex
  exact pe_call F hr hg hm hk hb hd hx ha hdb he hpl
theorem pe_callKw {CX : CXT} {k n : Nat} {x : Str} {ps ks : List Str} {sp : Sp} {gV : List V → List V → List V} {E : XK} {e : Expr} {es : List Expr} {kws : List Keyword} {p pos : Pos} {t tk : TA} (c : CalleeKw X.prog X.w X.K X.mg X.base CX k x ps sp n ks gV) (hr : Room k X.A) (hg : Gl X x) (hx : Passes CX X E)
    (ha : PA X (e :: es) t) (hkw : PK X kws tk) (hall : (backToKw pos (keywordEach kws X.env)).all (·.1.isSome) = true := by rfl) (hks : (backToKw pos (keywordEach kws X.env)).filterMap (·.1) = ks := by rfl)
    (hdb : (x == ("__debug__" : Str)) = false := by decide) (he : starEach (e :: es) X.env = (false, eval e X.env) :: starEach es X.env := by rfl)
    (hpl : ((backTo pos (starEach (e :: es) X.env)).any (·.1) || (backToKw pos (keywordEach kws X.env)).any (·.1.isNone)) = false := by rfl) :
    PE X (.Call (.Name x p) (e :: es) kws pos) (tCallN n ks.length sp gV E t tk) := by
  obtain ⟨f, fd, g, F, hm, hk, hb⟩ := c.ex
  exact pe_callN F hr hg hm hk hb hx ha hkw hall hks hdb he hpl
theorem hu65 {A : Around} {k : Nat} (hr : Room k A) : A.units + 65 < cLine := by have := hr.un; omega
/-! ### match over written texts -/
structure PM (X : Cx) (cs : List MatchCase) (tm : V → TS) : Prop where
  run : ∀ (pins : List (Addr × Obj)) (s : Shared) (σ : L2.St) (H : Hp) (D : Ends) (v : V) (u : Value) (first : Bool), Inv X pins σ H s → RelV v u → tm v D σ H → wpAny (model X.prog X.w) X.A (matchCases cs X.env u first) (SP X pins D) X.xe s
def tmNil : V → TS := fun _ D σ H => D.nx σ H
def tmStr (x : Str) (t : TS) (tr : V → TS) : V → TS := fun v D σ H => ∃ y, v = .str y ∧ if decide (y = x) = true then t D σ H else tr v D σ H
def tMatch (te : TE) (tm : V → TS) : TS := fun D σ H => te σ H fun x H1 => tm x D σ H1
theorem pm_nil : PM X [] tmNil := ⟨fun _ _ σ H _ _ _ _ I _ h => wpAny_matchCases_nil ⟨σ, H, I, h⟩⟩
theorem pm_str {x : Str} {j : _} {pos pos' : Pos} {body : List Stmt} {rest : List MatchCase} {t : TS} {tr : V → TS} (hb : PSs X body t) (hr : PM X rest tr) : PM X (⟨.MatchValue (.Constant (.str x) j pos) pos', none, body⟩ :: rest) (tmStr x t tr) := by
  refine ⟨fun pins s σ H D v u first I r h => ?_⟩
  obtain ⟨y, rfl, h⟩ := h
  refine wpAny_matchCases_cons (wpAny_matchPattern_Value ?_)
  refine thn (pe_str.run pins s σ H (fun v' H' => v' = .str x ∧ H' = H) I ⟨rfl, rfl⟩) fun u1 s1 ⟨v1, H1, I1, r1, e1, e2⟩ => ?_
  subst e1 e2
  refine thn (op_eq pins s1 σ H1 (.str y) (.str x) u u1 (fun v' H' => v' = .bl (decide (y = x)) ∧ H' = H1) I1 r r1 ⟨rfl, ?_, rfl⟩) fun u2 s2 ⟨v2, H2, I2, r2, e3, e4⟩ => ?_
  · congr 1
    by_cases e : y = x
    · subst e; simp
    · simp [e]
  subst e3 e4
  obtain rfl : u2 = Value.bool (decide (y = x)) := r2
  refine wpAny_truthy_bool ?_
  by_cases e : y = x
  · rw [if_pos (decide_eq_true e)]
    rw [if_pos (decide_eq_true e)] at h
    refine wpAny_assignInOrder_none ?_
    exact hb.run pins s2 σ H2 D I2 h
  · rw [if_neg (by simp [e])]
    rw [if_neg (by simp [e])] at h
    exact hr.run pins s2 σ H2 D _ u false I2 r h
theorem ps_match {e : Expr} {cs : List MatchCase} {pos : Pos} {te : TE} {tm : V → TS} (he : PE X e te) (hm : PM X cs tm) : PS X (.Match e cs pos) (tMatch te tm) := by
  refine ⟨fun pins s σ H D I h => ?_⟩
  refine wpAny_Match (thn (he.run pins s σ H _ I h) fun u s1 ⟨x, H1, I1, r1, q1⟩ => ?_)
  exact hm.run pins s1 σ H1 D x u true I1 r1 q1
end

/-! ### readings as steps -/
def ForW (J : It) (g : TG) (tb : TS) (D : Ends) (σ : L2.St) (H : Hp) : Prop := ∃ W : Nat → Nat → L2.St → Hp → Prop, (∃ m, W 0 m σ H) ∧ ∀ i m σ H, W i m σ H →
      (J.stop i H ∧ D.nx σ H) ∨ (J.go i H ∧ ∃ N : L2.St → Hp → Prop, (∀ σ' H', N σ' H' → ∃ m', m' < m ∧ W (i + 1) m' σ' H') ∧ ∀ x H', J.yld i H x H' → g x σ H' fun σ2 H2 => tb { D with nx := N, ct := N, bk := D.nx } σ2 H2)
def LcW (J : It) (g : TG) (tt : TT) (te : TE) (vs : List Nat) (σ : L2.St) (H1 : Hp) (Q : VK) : Prop := ∀ D, H1 D = none → ∃ W : Nat → Nat → Hp → Prop, (∃ m, W 0 m (upd H1 D (.lst []))) ∧ ∀ i m H, W i m H →
  (J.stop i H ∧ Q (.ref D) H) ∨ (J.go i H ∧ ∃ Nx : Hp → Prop, (∀ H', Nx H' → ∃ m', m' < m ∧ W (i + 1) m' H') ∧ ∀ x H', J.yld i H x H' → g x (wipe σ vs) H' fun σ2 H2 => wipe σ2 vs = wipe σ vs ∧ tt σ2 H2 fun b H3 =>
    if b = true then te σ2 H3 fun y H4 => ∃ acc, H4 D = some (.lst acc) ∧ acc.length < sizeLine ∧ Nx (upd H4 D (.lst (acc ++ [y]))) else Nx H3)
theorem forW {J : It} {n : Nat} {G : Hp → Prop} {Y : Nat → Hp → V → Hp → Prop} (wk : Walk J n G Y) {g : TG} {tb : TS} {D : Ends} {σ : L2.St} {H : Hp} (Pv : Nat → L2.St → Hp → Prop) (h0 : Pv 0 σ H) (hG : ∀ i σ H, i ≤ n → Pv i σ H → G H)
    (hs : ∀ i x σ H H', i < n → Pv i σ H → Y i H x H' → g x σ H' fun σ2 H2 => tb { D with nx := Pv (i + 1), ct := Pv (i + 1), bk := D.nx } σ2 H2) (hd : ∀ σ H, Pv n σ H → D.nx σ H) : ForW J g tb D σ H := for_it wk Pv h0 hG hs hd
section
variable {K : PySem.W.Frag} {σ : L2.St} {H : Hp} {D : Ends} {ta tb tc te : TE} {tA tr : TA} {t u : TT} {t1 t2 tu : TS} {x y v : V} {Q : VK} {QT : Bool → Hp → Prop} {QA : List V → Hp → Prop} {R : It → Hp → Prop} {i : Nat} {a p : Addr} {xs ys : List V}
theorem r_var (h : σ[i]? = some (some v)) (q : Q v H) : tVar i σ H Q := ⟨v, h, q⟩
theorem r_c (q : Q v H) : tC v σ H Q := q
theorem r_op {r : R2} (q : ta σ H fun x H1 => tb σ H1 fun y H2 => r x y H2 Q) : tOp r ta tb σ H Q := q
theorem r_un {r : V → Hp → VK → Prop} (q : ta σ H fun x H1 => r x H1 Q) : tUn r ta σ H Q := q
theorem r_I0 {g : Int → Int → V} {m n : Int} (q : Q (g m n) H) : rI0 g (.int m) (.int n) H Q := ⟨m, n, rfl, rfl, q⟩
theorem r_I {C : Int → Int → Prop} {g : Int → Int → V} {m n : Int} (hc : C m n) (q : Q (g m n) H) : rI C g (.int m) (.int n) H Q := ⟨m, n, rfl, rfl, hc, q⟩
theorem r_U {g : Int → V} {m : Int} (q : Q (g m) H) : rU g (.int m) H Q := ⟨m, rfl, q⟩
theorem r_eq (h : scal x y = true) (q : Q (.bl (decide (x = y))) H) : rEq x y H Q := ⟨h, q⟩
theorem r_ne (h : scal x y = true) (q : Q (.bl (!decide (x = y))) H) : rNe x y H Q := ⟨h, q⟩
theorem r_test (q : te σ H fun x H' => ∃ k, x = .bl k ∧ QT k H') : tTest te σ H QT := q
theorem r_B (q : te σ H fun x H' => ∃ k, x = .bl k ∧ QT k H') : tB te σ H QT := q
theorem r_bl {b : Bool} {q : Bool → Prop} (h : q b) : ∃ k, V.bl b = .bl k ∧ q k := ⟨b, rfl, h⟩
theorem r_and (q : t σ H fun c H1 => if c = true then u σ H1 QT else QT false H1) : tAnd t u σ H QT := q
theorem r_or (q : t σ H fun c H1 => if c = true then QT true H1 else u σ H1 QT) : tOr t u σ H QT := q
theorem r_not (q : t σ H fun c H1 => QT (!c) H1) : tNot t σ H QT := q
theorem r_andV (q : ta σ H fun x H1 => ∃ c, x = .bl c ∧ if c = true then tb σ H1 Q else Q (.bl false) H1) : tAndV ta tb σ H Q := q
theorem r_orV (q : ta σ H fun x H1 => ∃ c, x = .bl c ∧ if c = true then Q (.bl true) H1 else tb σ H1 Q) : tOrV ta tb σ H Q := q
theorem r_notV (q : ta σ H fun x H1 => ∃ c, x = .bl c ∧ Q (.bl (!c)) H1) : tNotV ta σ H Q := q
theorem r_if (q : t σ H fun c H1 => if c = true then ta σ H1 Q else tb σ H1 Q) : tIf t ta tb σ H Q := q
theorem r_nil (q : QA [] H) : tNil σ H QA := q
theorem r_cons (q : ta σ H fun x H1 => tr σ H1 fun xs H2 => QA (x :: xs) H2) : tCons ta tr σ H QA := q
theorem r_tup (q : tA σ H fun xs H1 => xs.length ≤ sizeLine ∧ ∀ p, H1 p = none → Q (.ref p) (upd H1 p (.tup xs))) : tTup tA σ H Q := q
theorem r_lst (q : tA σ H fun xs H1 => xs.length ≤ sizeLine ∧ ∀ p, H1 p = none → Q (.ref p) (upd H1 p (.lst xs))) : tLst tA σ H Q := q
theorem r_call {sp : Sp} {E : XK} (q : tA σ H fun vs H1 => sp (vs ++ []) H1 Q E) : tCall sp [] E tA σ H Q := q
theorem r_cb {r : List V → Hp → VK → Prop} (q : tA σ H fun vs H1 => r vs H1 Q) : tCB r tA σ H Q := q
theorem r_ixL {n : Int} (h : SqL K H p xs) (ha : atI xs n = some v) (q : Q v H) : rIxL K (.ref p) (.int n) H Q := ⟨p, xs, n, v, rfl, rfl, h, ha, q⟩
theorem r_ixT {n : Int} (h : SqT K H p xs) (ha : atI xs n = some v) (q : Q v H) : rIxT K (.ref p) (.int n) H Q := ⟨p, xs, n, v, rfl, rfl, h, ha, q⟩
theorem r_ixS {z : Str} {n : Int} {c : Nat} (hz : z.length ≤ sizeLine) (ha : atI z.cps.toList n = some c) (q : Q (.str ⟨#[c]⟩) H) : rIxS (.str z) (.int n) H Q := ⟨z, n, c, rfl, rfl, hz, ha, q⟩
theorem r_setL {n : Int} {j : Nat} {QH : Hp → Prop} (h : H p = some (.lst xs)) (hj : ixN xs.length n = some j) (q : QH (upd H p (.lst (xs.set j v)))) : rSetL (.ref p) (.int n) v H QH := ⟨p, xs, n, j, rfl, rfl, h, hj, q⟩
theorem r_fld {f : Str} (q : ta σ H fun x H1 => ∃ a C dx fs v, x = .ref a ∧ H1 a = some (.ins C dx fs) ∧ Cls K C ∧ NoAttr K C f ∧ fs.lookup f = some v ∧ Q v H1) : tFld K ta f σ H Q := q
theorem r_meth {C : Addr} {m : Str} {sp : Sp} {E : XK} (q : ta σ H fun x H1 => ∃ a dx fs, x = .ref a ∧ H1 a = some (.ins C dx fs) ∧ fs.lookup m = none ∧ tA σ H1 fun vs H2 => sp (x :: (vs ++ [])) H2 Q E) : tMeth C m sp [] E ta tA σ H Q := q
theorem r_cval {C : Addr} {mc : Value} {f : Str} {uu : Value} (h1 : ClX.CRead K C mc) (h2 : ClX.CVal K C mc f v uu) (q : Q v H) : ClX.tCVal K (tC (.ref C)) f σ H Q := ⟨C, mc, v, uu, rfl, h1, h2, q⟩
theorem r_fldV {C dx : Addr} {fs : List (Str × V)} {f : Str} (hp : H a = some (.ins C dx fs)) (hc : Cls K C) (hn : NoAttr K C f) (hl : fs.lookup f = some v) (hv : σ[i]? = some (some (.ref a))) (q : Q v H) : tFld K (tVar i) f σ H Q := ⟨.ref a, hv, a, C, dx, fs, v, rfl, hp, hc, hn, hl, q⟩
theorem r_sfld {f : Str} {tv : TE} (q : tv σ H fun y H1 => ta σ H1 fun x H2 => ∃ a C dx fs, x = .ref a ∧ H2 a = some (.ins C dx fs) ∧ Cls K C ∧ NoAttr K C f ∧ fs.length < 1000 ∧ D.nx σ (upd H2 a (.ins C dx (putF f y fs)))) : sFld K ta tv f D σ H := q
theorem r_itup (q : te σ H fun x H1 => ∃ a, x = .ref a ∧ (∃ xs, SqT K H1 a xs) ∧ R (Itt K a) H1) : iTup K te σ H R := q
theorem r_ilist (q : te σ H fun x H1 => ∃ a, x = .ref a ∧ (∃ xs, SqL K H1 a xs) ∧ R (Itl K a) H1) : iList K te σ H R := q
theorem r_istr (q : te σ H fun v H1 => ∃ x, v = .str x ∧ R (Its x) H1) : iStr te σ H R := q
theorem r_m1 {r : V → List V → Hp → VK → Prop} (q : ta σ H fun x H1 => (∃ a, x = .str a) ∧ te σ H1 fun y H2 => r x [y] H2 Q) : tM1 r ta te σ H Q := q
theorem r_m0 {r : V → List V → Hp → VK → Prop} (q : ta σ H fun x H1 => (∃ a, x = .str a) ∧ r x [] H1 Q) : tM0 r ta σ H Q := q
theorem r_isStr {z : Str} {B : Prop} (g : B) : (∃ a, V.str z = .str a) ∧ B := ⟨⟨z, rfl⟩, g⟩
theorem r_exStr {z : Str} {q : Str → Prop} (g : q z) : ∃ x, V.str z = .str x ∧ q x := ⟨z, rfl, g⟩
theorem r_gname {QG : L2.St → Hp → Prop} (q : QG (σ.set i (some v)) H) : gName i v σ H QG := q
theorem r_callD {sp : Sp} {dvs : List V} {E : XK} (q : tA σ H fun vs H1 => sp (vs ++ dvs) H1 Q E) : tCall sp dvs E tA σ H Q := q
theorem r_callN {n m : Nat} {sp : Sp} {gV : List V → List V → List V} {E : XK} {tk : TA} (q : tA σ H fun vs H1 => tk σ H1 fun zs H2 => vs.length = n ∧ zs.length = m ∧ sp (gV vs zs) H2 Q E) : tCallN n m sp gV E tA tk σ H Q := q
theorem r_dget1 (q : ta σ H fun x H1 => ∃ a, x = .ref a ∧ IsD H1 a ∧ tb σ H1 fun y H2 => ∃ o, DGet H2 a y o ∧ Q (o.getD .non) H2) : tDGet1 ta tb σ H Q := q
theorem r_dget (q : ta σ H fun x H1 => tb σ H1 fun y H2 => ∃ a v, x = .ref a ∧ DGet H2 a y (some v) ∧ Q v H2) : tDGet ta tb σ H Q := q
theorem r_disp {trs : List (TE × TE)} (q : ∀ p, H p = none → tPairs trs σ (upd H p (.dK [])) fun ps H2 => H2 p = some (.dK []) ∧ ∃ kvs : List (Key × V), ps = kvs.map (fun kv => (kV kv.1, kv.2)) ∧ kvs.length ≤ 15 ∧ Q (.ref p) (upd H2 p (.dK (mergeK [] kvs)))) : tDisp trs σ H Q := q
theorem r_pairs {trs : List (TE × TE)} {QP : List (V × V) → Hp → Prop} (q : ta σ H fun x H1 => tb σ H1 fun y H2 => tPairs trs σ H2 fun ps H3 => QP ((x, y) :: ps) H3) : tPairs ((ta, tb) :: trs) σ H QP := q
theorem r_pairs0 {QP : List (V × V) → Hp → Prop} (q : QP [] H) : tPairs [] σ H QP := q
theorem r_fldK {C dx : Addr} {fs : List (Str × V)} {f : Str} {G : V → Prop} (hp : H p = some (.ins C dx fs)) (hc : Cls K C) (hn : NoAttr K C f) (hl : fs.lookup f = some v) (q : G v) :
    ∃ a C dx fs v, V.ref p = .ref a ∧ H a = some (.ins C dx fs) ∧ Cls K C ∧ NoAttr K C f ∧ fs.lookup f = some v ∧ G v := ⟨p, C, dx, fs, v, rfl, hp, hc, hn, hl, q⟩
theorem r_gtup {n : Nat} {gs : TGs} {QG : L2.St → Hp → Prop} (h : SqT K H a xs) (hn : xs.length = n) (q : gs xs σ H QG) : gTup K n gs (.ref a) σ H QG := ⟨a, xs, rfl, h, hn, q⟩
theorem r_gcons {g : TG} {gs : TGs} {QG : L2.St → Hp → Prop} (q : g v σ H fun σ' H' => gs xs σ' H' QG) : gCons g gs (v :: xs) σ H QG := ⟨v, xs, rfl, q⟩
theorem r_gnil {QG : L2.St → Hp → Prop} (q : QG σ H) : gNil [] σ H QG := ⟨rfl, q⟩
theorem r_asgG {g : TG} (q : te σ H fun x H1 => g x σ H1 D.nx) : tAsg te g D σ H := q
theorem r_rng2 {m n : Int} {q : Int → Int → Prop} (h : q m n) : ∃ i j : Int, [V.int m, V.int n] = [.int i, .int j] ∧ q i j := ⟨m, n, rfl, h⟩
theorem r_irng2 (q : tA σ H fun vs H1 => ∃ i j : Int, vs = [.int i, .int j] ∧ (-(2 ^ 62) ≤ i ∧ i < 2 ^ 62 ∧ -(2 ^ 62) ≤ j ∧ j < 2 ^ 62) ∧ R (Itr i (j - i).toNat) H1) : iRng2 tA σ H R := q
theorem r_cat {p' : Addr} (h : H p = some (.lst xs)) (h' : H p' = some (.lst ys)) (hl : xs.length + ys.length ≤ sizeLine) (g : ∀ c, H c = none → Q (.ref c) (upd H c (.lst (xs ++ ys)))) : rCat (.ref p) (.ref p') H Q := ⟨p, p', xs, ys, rfl, rfl, h, h', hl, g⟩
theorem r_bm {T : String} {r : V → List V → Hp → VK → Prop} (q : ta σ H fun x H1 => tyV K T x H1 ∧ tA σ H1 fun xs H2 => r x xs H2 Q) : tBM K T r ta tA σ H Q := q
theorem r_tyL {B : Prop} (h : SqL K H p xs) (g : B) : tyV K "list" (.ref p) H ∧ B := ⟨.inl ⟨rfl, xs, h⟩, g⟩
theorem r_append (h : H p = some (.lst xs)) (hl : xs.length < sizeLine) (q : Q .non (upd H p (.lst (xs ++ [v])))) : rAppend (.ref p) [v] H Q := ⟨p, xs, v, rfl, rfl, h, hl, q⟩
theorem r_seq (q : t1 { D with nx := t2 D } σ H) : tSeq t1 t2 D σ H := q
theorem r_next (q : D.nx σ H) : tNext D σ H := q
theorem r_asg (q : te σ H fun x H1 => D.nx (σ.set i (some x)) H1) : tAsg te (gName i) D σ H := q
theorem r_asgS {s : TSet} (q : te σ H fun v H1 => ta σ H1 fun o H2 => tb σ H2 fun i H3 => s o i v H3 fun H4 => D.nx σ H4) : tAsg te (gSub ta tb s) D σ H := q
theorem r_ifS (q : t σ H fun b H1 => if b = true then t1 D σ H1 else t2 D σ H1) : tIfS t t1 t2 D σ H := q
theorem r_dput (q : tc σ H fun v H1 => ta σ H1 fun x H2 => tb σ H2 fun y H3 => ∃ a H4, x = .ref a ∧ DPut H3 a y v H4 ∧ D.nx σ H4) : sDPut ta tb tc D σ H := q
theorem r_ret (q : te σ H D.rt) : tRet te D σ H := q
theorem r_drop (q : te σ H fun _ H1 => D.nx σ H1) : tDrop te D σ H := q
theorem r_par {k j : Nat} (q : tA σ H fun vs H1 => ∃ v w, vs = [v, w] ∧ D.nx ((σ.set k (some v)).set j (some w)) H1) : tPar k j tA D σ H := q
theorem r_aug {tip : TIp} (h : σ[i]? = some (some x)) (q : te σ H fun y H1 => tip x y H1 fun z H2 => D.nx (σ.set i (some z)) H2) : tAug i te tip D σ H := ⟨x, h, q⟩
theorem r_match {tm : V → TS} (q : te σ H fun x H1 => tm x D σ H1) : tMatch te tm D σ H := q
theorem r_mstr {x y : Str} {tm : V → TS} (q : if decide (y = x) = true then t1 D σ H else tm (.str y) D σ H) : tmStr x t1 tm (.str y) D σ H := ⟨y, rfl, q⟩
theorem r_mnil (q : D.nx σ H) : tmNil v D σ H := q
theorem r_sl {r : V → Option Int → Option Int → Hp → VK → Prop} {tl th : TO} (q : te σ H fun x H1 => tl σ H1 fun l H2 => th σ H2 fun u H3 => r x l u H3 Q) : tSl r te tl th σ H Q := q
theorem r_nopart {QO : Option Int → Hp → Prop} (q : QO none H) : tNoPart σ H QO := q
theorem r_part {QO : Option Int → Hp → Prop} (q : te σ H fun x H1 => ∃ i, x = .int i ∧ QO (some i) H1) : tPart te σ H QO := q
theorem r_int {m : Int} {q : Int → Prop} (h : q m) : ∃ k, V.int m = .int k ∧ q k := ⟨m, rfl, h⟩
theorem r_int1 {m : Int} {q : Int → Prop} {B : Prop} (h : q m) : (∃ i, [V.int m] = [V.int i] ∧ q i) ∨ B := .inl ⟨m, rfl, h⟩
theorem r_bl1 {b : Bool} {q : Bool → Prop} {A : Prop} (h : q b) : A ∨ ∃ k, [V.bl b] = [V.bl k] ∧ q k := .inr ⟨b, rfl, h⟩
theorem r_ex1 {m : Int} {q : Int → Prop} (h : q m) : ∃ i, [V.int m] = [V.int i] ∧ q i := ⟨m, rfl, h⟩
theorem r_ex2 {m n : Int} {q : Int → Int → Prop} (h : q m n) : ∃ i j, [V.int m, V.int n] = [V.int i, V.int j] ∧ q i j := ⟨m, n, rfl, h⟩
theorem r_lenS {q : List V → Prop} (h : SqL K H p xs) (g : q xs) : ∃ a ys, [V.ref p] = [V.ref a] ∧ (SqL K H a ys ∨ SqT K H a ys) ∧ q ys := ⟨p, xs, rfl, .inl h, g⟩
theorem r_slL {lo hi : Option Int} (h : SqL K H p xs) (q : ∀ c, H c = none → Q (.ref c) (upd H c (.lst (cutV xs lo hi)))) : rSlL K (.ref p) lo hi H Q := ⟨p, xs, rfl, h, q⟩
theorem r_for {wi : TI} {g : TG} (q : wi σ H fun J H1 => ForW J g t1 D σ H1) : tFor wi g t1 D σ H := q
theorem r_lc {wi : TI} {g : TG} {tt : TT} {vs : List Nat} (q : wi σ H fun J H1 => LcW J g tt te vs σ H1 Q) : tLc wi g tt te vs σ H Q := q
theorem r_irng1 (q : tA σ H fun vs H1 => ∃ j : Int, vs = [.int j] ∧ -(2 ^ 62) ≤ j ∧ j < 2 ^ 62 ∧ R (Itr 0 j.toNat) H1) : iRng1 tA σ H R := q
theorem r_iteT {c : Prop} [Decidable c] {A B : Prop} (h : c) (q : A) : if decide c = true then A else B := by rw [if_pos (decide_eq_true h)]; exact q
theorem r_iteF {c : Prop} [Decidable c] {A B : Prop} (h : ¬ c) (q : B) : if decide c = true then A else B := by rw [if_neg (by simpa using h)]; exact q
theorem r_iteNT {c : Prop} [Decidable c] {A B : Prop} (h : ¬ c) (q : A) : if (!decide c) = true then A else B := by rw [if_pos (by simpa using h)]; exact q
theorem r_iteNF {c : Prop} [Decidable c] {A B : Prop} (h : c) (q : B) : if (!decide c) = true then A else B := by rw [if_neg (by simpa using h)]; exact q
theorem ite_join {c : Prop} [Decidable c] (Z : VK) (h1 : c → ∀ Q : VK, (∀ v H', Z v H' → Q v H') → ta σ H Q) (h2 : ¬ c → ∀ Q : VK, (∀ v H', Z v H' → Q v H') → tb σ H Q) (q : ∀ v H', Z v H' → Q v H') : if decide c = true then ta σ H Q else tb σ H Q := by
  by_cases h : c
  · rw [if_pos (decide_eq_true h)]; exact h1 h Q q
  · rw [if_neg (by simpa using h)]; exact h2 h Q q
theorem r_make {C : Addr} {sp : Sp} {E : XK} (q : tA σ H fun vs H1 => ∀ x dx, H1 x = none → H1 dx = none → dx ≠ x → sp (.ref x :: (vs ++ [])) (upd (upd H1 dx (.own x)) x (.ins C dx [])) (fun v H2 => v = .non ∧ Q (.ref x) H2) E) : tMake C sp [] E tA σ H Q := q
theorem r_addS {m n : Str} {q : Str → Str → Prop} (h : m.length + n.length ≤ sizeLine) (g : q m n) : ∃ i j, V.str m = .str i ∧ V.str n = .str j ∧ i.length + j.length ≤ sizeLine ∧ q i j := ⟨m, n, rfl, rfl, h, g⟩
theorem iteNt {A B : Prop} (h : B) : if (!true) = true then A else B := h
theorem iteNf {A B : Prop} (h : A) : if (!false) = true then A else B := h
theorem r_ite2 {c : Prop} [Decidable c] {A B : Prop} (h1 : c → A) (h2 : ¬ c → B) : if decide c = true then A else B := by
  by_cases h : c
  · exact r_iteT h (h1 h)
  · exact r_iteF h (h2 h)
theorem r_iteN2 {c : Prop} [Decidable c] {A B : Prop} (h1 : ¬ c → A) (h2 : c → B) : if (!decide c) = true then A else B := by
  by_cases h : c
  · exact r_iteNF h (h2 h)
  · exact r_iteNT h (h1 h)
end

theorem at_start {t : TS} {D : Ends} {σ σ0 : L2.St} {H : Hp} (h : σ0 = σ) (q : t D σ H) : t D σ0 H := h ▸ q
theorem cx_K {CX : CXT} {P : Program} {w : World} {K : PySem.W.Frag} {mg : Str → Option Value} {base : Heap} {N : List Str} {qual : Str} {sc : Scope} {f : Addr} {cd : Value} {A : Around} {outer : List Env} {s : Shared} {H : Hp} {E : XK} : (cxOf CX P w K mg base N qual sc f cd A outer s H E).nox.K = K := rfl
theorem mul_bd {x y A B : Int} (h0 : 0 ≤ x) (h1 : x ≤ A) (h2 : 0 ≤ y) (h3 : y ≤ B) : 0 ≤ x * y ∧ x * y ≤ A * B := ⟨Int.mul_nonneg h0 h2, Int.mul_le_mul h1 h3 h2 (Int.le_trans h0 h1)⟩
/-! ### flat lists compared -/
theorem dp_ints {K : PySem.W.Frag} {H : Hp} : ∀ ns : List Int, DpAll K H (ns.map V.int) (ns.map PyData.int)
  | [] => .nil
  | n :: r => .cons (.int n) (dp_ints r)
theorem lay_ints : ∀ ns : List Int, PyData.canLayAll0 (ns.map PyData.int) = true
  | [] => rfl
  | n :: r => by
    show (PyData.canLay0 (.int n) && PyData.canLayAll0 (r.map PyData.int)) = true
    rw [lay_ints r]; rfl
theorem depth_ints : ∀ ns : List Int, PyData.depthAll (ns.map PyData.int) = 0
  | [] => rfl
  | n :: r => by
    show max (PyData.depth (.int n)) (PyData.depthAll (r.map PyData.int)) = 0
    rw [depth_ints r]; rfl
theorem shaped_ints (ns : List Int) : SeqAt.shaped (.list (ns.map PyData.int)) = true := by
  show (PyData.canLayAll0 (ns.map PyData.int) && decide (PyData.depthAll (ns.map PyData.int) + 1 ≤ 64)) = true
  rw [lay_ints, depth_ints]; rfl
theorem eqv_ints : ∀ ns ms : List Int, PyData.eqvAll (ns.map PyData.int) (ms.map PyData.int) = decide (ns = ms)
  | [], [] => rfl
  | [], _ :: _ => rfl
  | _ :: _, [] => rfl
  | n :: r, m :: q => by
    show ((n == m) && PyData.eqvAll (r.map PyData.int) (q.map PyData.int)) = decide (n :: r = m :: q)
    rw [eqv_ints r q]
    by_cases h1 : n = m <;> by_cases h2 : r = q <;> simp [h1, h2]
theorem eqT_shaped (ns : List Int) : SeqAt.shaped (.tuple (ns.map PyData.int)) = true := by
  show (PyData.canLayAll0 (ns.map PyData.int) && decide (PyData.depthAll (ns.map PyData.int) + 1 ≤ 64)) = true
  rw [lay_ints, depth_ints]; rfl
theorem r_neIntsT {K : PySem.W.Frag} {H : Hp} {Q : VK} {a b : Addr} {ns ms : List Int} (h : SqT K H a (ns.map V.int)) (h' : SqT K H b (ms.map V.int)) (q : Q (.bl (!decide (ns = ms))) H) : rNeD K (.ref a) (.ref b) H Q :=
  ⟨_, _, .tup h (dp_ints ns), .tup h' (dp_ints ms), eqT_shaped ns, eqT_shaped ms, (show Q (.bl (!PyData.eqvAll (ns.map PyData.int) (ms.map PyData.int))) H by rw [eqv_ints]; exact q)⟩
theorem r_eqInts {K : PySem.W.Frag} {H : Hp} {Q : VK} {a b : Addr} {ns ms : List Int} (h : SqL K H a (ns.map V.int)) (h' : SqL K H b (ms.map V.int)) (q : Q (.bl (decide (ns = ms))) H) : rEqD K (.ref a) (.ref b) H Q :=
  ⟨_, _, .lst h (dp_ints ns), .lst h' (dp_ints ms), shaped_ints ns, shaped_ints ms, (show Q (.bl (PyData.eqvAll (ns.map PyData.int) (ms.map PyData.int))) H by rw [eqv_ints]; exact q)⟩
theorem r_neInts {K : PySem.W.Frag} {H : Hp} {Q : VK} {a b : Addr} {ns ms : List Int} (h : SqL K H a (ns.map V.int)) (h' : SqL K H b (ms.map V.int)) (q : Q (.bl (!decide (ns = ms))) H) : rNeD K (.ref a) (.ref b) H Q :=
  ⟨_, _, .lst h (dp_ints ns), .lst h' (dp_ints ms), shaped_ints ns, shaped_ints ms, (show Q (.bl (!PyData.eqvAll (ns.map PyData.int) (ms.map PyData.int))) H by rw [eqv_ints]; exact q)⟩
theorem inV_strs {z : Str} : ∀ zs : List Str, inV (.str z) (zs.map V.str) = decide (z ∈ zs)
  | [] => by simp [inV]
  | y :: r => by
    have ih := inV_strs (z := z) r
    unfold inV at ih ⊢
    rw [List.map_cons, List.any_cons, ih]
    show (decide (y = z) || decide (z ∈ r)) = decide (z ∈ y :: r)
    by_cases e : y = z
    · subst e; simp
    · have e' : ¬ z = y := fun q => e q.symm
      simp [e, e']
theorem inV_ints {z : Int} : ∀ zs : List Int, inV (.int z) (zs.map V.int) = decide (z ∈ zs)
  | [] => by simp [inV]
  | y :: r => by
    have ih := inV_ints (z := z) r
    unfold inV at ih ⊢
    rw [List.map_cons, List.any_cons, ih]
    show ((y == z) || decide (z ∈ r)) = decide (z ∈ y :: r)
    by_cases e : y = z
    · subst e; simp
    · have e' : ¬ z = y := fun q => e q.symm
      simp [e, e']
theorem flat_ints : ∀ zs : List Int, (zs.map V.int).all flatV = true
  | [] => rfl
  | y :: r => by rw [List.map_cons, List.all_cons, flat_ints r]; rfl
theorem r_notInI {K : PySem.W.Frag} {H : Hp} {Q : VK} {p : Addr} {z : Int} {zs : List Int} (h : SqL K H p (zs.map V.int) ∨ SqT K H p (zs.map V.int)) (q : Q (.bl (!decide (z ∈ zs))) H) : rIn K true (.int z) (.ref p) H Q :=
  ⟨p, _, rfl, h, rfl, flat_ints zs, (show Q (.bl (!inV (.int z) (zs.map V.int))) H by rw [inV_ints]; exact q)⟩
theorem r_inI {K : PySem.W.Frag} {H : Hp} {Q : VK} {p : Addr} {z : Int} {zs : List Int} (h : SqL K H p (zs.map V.int) ∨ SqT K H p (zs.map V.int)) (q : Q (.bl (decide (z ∈ zs))) H) : rIn K false (.int z) (.ref p) H Q :=
  ⟨p, _, rfl, h, rfl, flat_ints zs, (show Q (.bl (inV (.int z) (zs.map V.int))) H by rw [inV_ints]; exact q)⟩
theorem flat_strs : ∀ zs : List Str, (zs.map V.str).all flatV = true
  | [] => rfl
  | y :: r => by rw [List.map_cons, List.all_cons, flat_strs r]; rfl
theorem r_notInS {K : PySem.W.Frag} {H : Hp} {Q : VK} {p : Addr} {z : Str} {zs : List Str} (h : SqL K H p (zs.map V.str) ∨ SqT K H p (zs.map V.str)) (q : Q (.bl (!decide (z ∈ zs))) H) : rIn K true (.str z) (.ref p) H Q :=
  ⟨p, _, rfl, h, rfl, flat_strs zs, (show Q (.bl (!inV (.str z) (zs.map V.str))) H by rw [inV_strs]; exact q)⟩
theorem r_inS {K : PySem.W.Frag} {H : Hp} {Q : VK} {p : Addr} {z : Str} {zs : List Str} (h : SqL K H p (zs.map V.str) ∨ SqT K H p (zs.map V.str)) (q : Q (.bl (decide (z ∈ zs))) H) : rIn K false (.str z) (.ref p) H Q :=
  ⟨p, _, rfl, h, rfl, flat_strs zs, (show Q (.bl (inV (.str z) (zs.map V.str))) H by rw [inV_strs]; exact q)⟩
/-! ### heaps -/
theorem upd_new {H : Hp} {a p : Addr} {o u : HO} (hn : H p = none) (h : H a = some u) : upd H p o a = some u := by rw [upd_ne (ne_of_none h hn)]; exact h
theorem same_new {H : Hp} {p : Addr} {o : HO} (hn : H p = none) : Same H (upd H p o) := fun _ _ e => upd_new hn e
theorem Same.up {H H' : Hp} {a : Addr} {o : HO} (s : Same H H') (h : H a = some o) : H' a = some o := s a o h
theorem same_mut {H H' : Hp} {p : Addr} {o : HO} (s : Same H H') (hn : H p = none) : Same H (upd H' p o) := fun _ _ e => by rw [upd_ne (ne_of_none e hn)]; exact s _ _ e
theorem same_seqT {K : PySem.W.Frag} {H H' : Hp} {a : Addr} {xs : List V} (e : Same H H') (h : SqT K H a xs) : SqT K H' a xs := by
  rcases h with (h | ⟨o, h⟩) | h
  · exact .inl (.inl (e _ _ h))
  · exact .inl (.inr ⟨o, e _ _ h⟩)
  · exact .inr h
theorem small1000' {n : Nat} (h : n ≤ 10000) : n < sizeLine := Nat.lt_of_le_of_lt h (by decide)
/-- a comprehension whose test and element are pure -/
theorem lc_all {J : It} {n : Nat} {G : Hp → Prop} {Y : Nat → Hp → V → Hp → Prop} (wk : Walk J n G Y) {tt : TT} {te : TE} {vs : List Nat} {σ : L2.St} {H1 : Hp} {Q : VK} {j : Nat} (yv : Nat → V) (f : Nat → Bool) (v : Nat → V) (hn : n ≤ 10000)
    (hY : ∀ i H x H', i < n → Y i H x H' → H' = H ∧ x = yv i) (hG : ∀ H', Same H1 H' → G H') (hw : ∀ x, wipe ((wipe σ vs).set j (some x)) vs = wipe σ vs)
    (ht : ∀ i H', i < n → Same H1 H' → ∀ QT : Bool → Hp → Prop, (∀ H2, Same H' H2 → QT (f i) H2) → tt ((wipe σ vs).set j (some (yv i))) H' QT)
    (he : ∀ i H', i < n → f i = true → Same H1 H' → ∀ Q : VK, (∀ H2, Same H' H2 → Q (v i) H2) → te ((wipe σ vs).set j (some (yv i))) H' Q)
    (hd : ∀ D H', H1 D = none → Same H1 H' → H' D = some (.lst (Evl.given n f v)) → Q (.ref D) H') :
    LcW J (gName j) tt te vs σ H1 Q := by
  intro D hD
  refine lc_it wk (Qd := fun H => Q (.ref D) H) (fun i H => Same H1 H ∧ H D = some (.lst (Evl.given i f v))) ⟨same_new hD, upd_same⟩ (fun i H _ p => hG H p.1) (fun i x H H' hi p y => ?_) (fun H p => hd D H hD p.1 p.2)
  obtain ⟨rfl, rfl⟩ := hY i H x H' hi y
  refine ⟨hw _, ?_⟩
  refine ht i _ hi p.1 _ fun H2 s2 => ?_
  cases e : f i with
  | true =>
    refine iteT ?_
    refine he i H2 hi e (p.1.trans s2) _ fun H3 s3 => ?_
    refine ⟨_, s3 _ _ (s2 _ _ p.2), small1000' (Nat.le_trans (Evl.given_len i f v) (by omega)), same_mut ((p.1.trans s2).trans s3) hD, ?_⟩
    rw [upd_same, Evl.given_yes e]
  | false =>
    refine iteF ?_
    refine ⟨p.1.trans s2, ?_⟩
    rw [s2 _ _ p.2, Evl.given_no e]
theorem range_get {α : Type} (xs : List α) (d : α) : (List.range xs.length).map (fun i => xs.getD i d) = xs := by
  refine List.ext_getElem (by simp) fun i h1 h2 => ?_
  simp [List.getElem?_eq_getElem h2]
theorem given_filter {α : Type} (xs : List α) (d : α) (p : α → Bool) (g : α → V) : Evl.given xs.length (fun i => p (xs.getD i d)) (fun i => g (xs.getD i d)) = (xs.filter p).map g := by
  unfold Evl.given
  have e := range_get xs d
  have h2 : (List.range xs.length).filter (fun i => p (xs.getD i d)) = (List.range xs.length).filter (p ∘ fun i => xs.getD i d) := rfl
  have h3 : ((List.range xs.length).filter (p ∘ fun i => xs.getD i d)).map (g ∘ fun i => xs.getD i d) = (xs.filter p).map g := by
    rw [← List.map_map, ← List.filter_map, e]
  exact h3
theorem given_map {α : Type} (xs : List α) (d : α) (g : α → V) : Evl.given xs.length (fun _ => true) (fun i => g (xs.getD i d)) = xs.map g := by
  have h := given_filter xs d (fun _ => true) g
  rw [List.filter_eq_self.mpr (fun _ _ => rfl)] at h
  exact h
theorem atI_map {α : Type} {xs : List α} {g : α → V} {r : Int} (h0 : 0 ≤ r) (h1 : r < (xs.length : Int)) : ∃ x ∈ xs, atI (xs.map g) r = some (g x) := by
  obtain ⟨n, rfl⟩ : ∃ n : Nat, r = (n : Int) := ⟨r.toNat, by omega⟩
  have hl : n < xs.length := by omega
  refine ⟨xs[n], List.getElem_mem hl, ?_⟩
  exact atI_nat (by simp [hl])
theorem YAt_get {α : Type} {xs : List α} {d : α} {g : α → V} {i : Nat} {H : Hp} {x : V} {H' : Hp} (hi : i < (xs.map g).length) (y : YAt (xs.map g) i H x H') : H' = H ∧ x = g (xs.getD i d) := by
  obtain ⟨rfl, e⟩ := y
  refine ⟨rfl, ?_⟩
  have hl : i < xs.length := by simpa using hi
  rw [List.getElem?_map, List.getElem?_eq_getElem hl] at e
  have e' : g xs[i] = x := Option.some.inj e
  rw [← e', List.getD_eq_getElem?_getD, List.getElem?_eq_getElem hl]
  rfl
theorem r_isiS {K : PySem.W.Frag} {H : Hp} {Q : VK} {z : Str} (q : Q (.bl true) H) : rIsi K [.str z, .ty "str"] H Q := ⟨_, _, .type "str", _, _, rfl, .ty _, .base (.str z), kit_ty (by decide +kernel), q⟩
theorem cutV_take (xs : List V) (n : Nat) : cutV xs none (some (n : Int)) = xs.take n := by
  unfold cutV
  rw [HT.sIx_none, HT.sIx_nat]
  simp only [List.drop_zero, Nat.sub_zero]
  by_cases h : n ≤ xs.length
  · rw [Nat.min_eq_left h]
  · rw [Nat.min_eq_right (by omega), List.take_length, List.take_of_length_le (by omega)]
theorem decI {a b : Int} : decide (V.int a = V.int b) = decide (a = b) := by
  by_cases h : a = b
  · rw [h]; simp
  · rw [decide_eq_false h, decide_eq_false fun z => h (V.int.inj z)]
theorem decS {a b : Str} : decide (V.str a = V.str b) = decide (a = b) := by
  by_cases h : a = b
  · rw [h]; simp
  · rw [decide_eq_false h, decide_eq_false fun z => h (V.str.inj z)]
/-- a list of truths made by a comprehension -/
theorem given_bl {α : Type} (xs : List α) (d : α) (p : α → Bool) : Evl.given xs.length (fun _ => true) (fun i => V.bl (p (xs.getD i d))) = (xs.map p).map V.bl := by
  rw [given_map xs d (fun x => V.bl (p x)), List.map_map]
  rfl
theorem given_int {α : Type} (xs : List α) (d : α) (p : α → Int) : Evl.given xs.length (fun _ => true) (fun i => V.int (p (xs.getD i d))) = (xs.map p).map V.int := by
  rw [given_map xs d (fun x => V.int (p x)), List.map_map]
  rfl
theorem all_id {α : Type} (xs : List α) (p : α → Bool) : (xs.map p).all id = xs.all p := by
  rw [List.all_map]
  rfl
def optV : Option Int → V
  | none => .non
  | some i => .int i
theorem strEq {a b : Str} (h : V.str a = V.str b) : a = b := V.str.inj h
theorem strNe {a b : Str} (h : ¬ V.str a = V.str b) : ¬ a = b := fun z => h (by rw [z])
theorem intEq {a b : Int} (h : V.int a = V.int b) : a = b := V.int.inj h
theorem intNe {a b : Int} (h : ¬ V.int a = V.int b) : ¬ a = b := fun z => h (by rw [z])
theorem r_iteS2 {a b : Str} {A B : Prop} (h1 : a = b → A) (h2 : ¬ a = b → B) : if decide (V.str a = V.str b) = true then A else B := r_ite2 (fun h => h1 (strEq h)) (fun h => h2 (strNe h))
theorem r_iteI2 {a b : Int} {A B : Prop} (h1 : a = b → A) (h2 : ¬ a = b → B) : if decide (V.int a = V.int b) = true then A else B := r_ite2 (fun h => h1 (intEq h)) (fun h => h2 (intNe h))
theorem r_iteB {b : Bool} {A B : Prop} (h1 : b = true → A) (h2 : b = false → B) : if b = true then A else B := by
  cases b
  · exact iteF (h2 rfl)
  · exact iteT (h1 rfl)
theorem r_iteBN {b : Bool} {A B : Prop} (h1 : b = false → A) (h2 : b = true → B) : if (!b) = true then A else B := by
  cases b
  · exact iteT (h1 rfl)
  · exact iteF (h2 rfl)
theorem val_to {Q : VK} {v v' : V} {H : Hp} (z : Q v H) (e : v = v') : Q v' H := e ▸ z
theorem r_isiO {K : PySem.W.Frag} {H : Hp} {Q : VK} {o : Option Int} (q : Q (.bl false) H) : rIsi K [optV o, .ty "bool"] H Q := by
  cases o with
  | none => exact ⟨_, _, .type "NoneType", _, _, rfl, .ty _, .base .non, kit_ty (by decide +kernel), q⟩
  | some i => exact ⟨_, _, .type "int", _, _, rfl, .ty _, .base (.int i), kit_ty (by decide +kernel), q⟩
theorem r_neO {H : Hp} {Q : VK} {o : Option Int} (q : Q (.bl false) H) : rNe (optV o) (optV o) H Q := by
  refine ⟨by cases o <;> rfl, ?_⟩
  rw [decide_eq_true rfl]
  exact q
theorem r_isNone {B : Prop} (q : B) : V.non = V.non ∧ B := ⟨rfl, q⟩
theorem r_neB {H : Hp} {Q : VK} {b : Bool} (q : Q (.bl false) H) : rNe (.bl b) (.bl b) H Q := by
  refine ⟨rfl, ?_⟩
  rw [decide_eq_true rfl]
  exact q
theorem putF_le (f : Str) (v : V) : ∀ fs : List (Str × V), (putF f v fs).length ≤ fs.length + 1
  | [] => Nat.le_refl _
  | (g, x) :: r => by
    unfold putF
    split
    · simp
    · have := putF_le f v r
      simp only [List.length_cons]
      omega
theorem putF_lt {f : Str} {v : V} {fs : List (Str × V)} {n m : Nat} (h : fs.length + (n + 1) < m) : (putF f v fs).length + n < m := by
  have := putF_le f v fs
  omega
theorem putF_lt0 {f : Str} {v : V} {fs : List (Str × V)} {m : Nat} (h : fs.length + 1 < m) : (putF f v fs).length < m := putF_lt (n := 0) h
theorem sz_lit {n : Nat} (h : n ≤ 1000) : n ≤ sizeLine := Nat.le_of_lt (small1000 h)
end KB

/-! KG: own layer: defs called while no repr is under way (A.guards = some []); repr of data. -/
namespace KG
open PySem PySem.Spec PyProof.Rows L2 KB
abbrev Free (A : Around) : Prop := A.guards = some []
theorem free_deeper {A : Around} (g : Free A) (env : Env) : Free (A.deeper env) := g
/-- as FnOk, asked only where no repr is under way -/
structure FnG (P : Program) (w : World) (K : PySem.W.Frag) (mg : Str → Option Value) (base : Heap) (CX : CXT) (k : Nat) (f : Addr) (fd : FuncData) (ps : List Str) (sp : Sp) : Prop where
  size : ∀ xs h Z W, sp xs h Z W → xs.length = ps.length
  go : ∀ (A : Around), Free A → ∀ (out : List Env) (st : Shared) (h : Hp) (ar : Args) (ws : List Value) (xs : List V) (Z : VK) (W : XK), Room k A → Env0 P w K mg base A out st h → BindsTo st fd ar (ps.zip ws) → Vals xs ws → sp xs h Z W →
    codeAny (model P w) A (.call (.ref f) ar) (CR CX out P w h st Z W) st
theorem FnG.of {P : Program} {w : World} {K : PySem.W.Frag} {mg : Str → Option Value} {base : Heap} {CX : CXT} {k : Nat} {f : Addr} {fd : FuncData} {ps : List Str} {sp : Sp} (F : FnOk P w K mg base CX k f fd ps sp) : FnG P w K mg base CX k f fd ps sp :=
  ⟨F.len, fun A _ => F.run A⟩
section
variable {P : Program} {w : World} {K : PySem.W.Frag} {mg : Str → Option Value} {base : Heap} {CX : CXT}
theorem fnG_body {k : Nat} {f : Addr} {nm ql : Str} {pr : Arguments} {bd : List Stmt} {sc : Scope} {v1 v2 v3 v4 cv v5 v6 : Value} {a1 a2 : Option Addr} {slots : Array (Option Value)} {N ps : List Str} {sp : Sp}
    (look : K.lookup f = some ⟨v6, a2, .func (PySem.W.fnOf nm ql pr bd sc v1 v2 v3 v4 a1 cv v5), slots⟩) (code : PySem.W.codeIn K cv ql = true) (S : FnScope N ps sc) (size : ∀ xs h Z W, sp xs h Z W → xs.length = ps.length)
    (body : ∀ (A : Around) (out : List Env) (st : Shared) (h : Hp) (xs : List V) (Z : VK) (W : XK), Room k (A.deeper (envOfC ql sc st.heap.objs.size f cv)) → Free A → sp xs h Z W →
      ∃ t, PSs (cxOf CX P w K mg base N ql sc f cv A out st h W) bd t ∧ t { nx := fun _ h' => Z .non h', rt := Z } (start N xs) h) :
    FnG P w K mg base CX (k + 1) f (PySem.W.fnOf nm ql pr bd sc v1 v2 v3 v4 a1 cv v5) ps sp := by
  refine ⟨size, fun A fr out st h ar ws xs Z W room env bind vals pre => ?_⟩
  have kin : K.In st.heap := env.mod.kin.keeps fun b o q => (env.bs b o q).1
  have nolim : st.heap.NoLimit := env.mod.nolimit.keeps fun b o q => (env.bs b o q).1
  have kinds : ∀ y ∈ ps.zip ws, sc.names.lookup y.1 = some .local ∨ (sc.names.lookup y.1 = some .cell ∧ ((cellsFrom (st.heap.objs.size + 1) sc.names []).lookup y.1).isSome = true) := by
    intro y hy
    obtain ⟨n, v⟩ := y
    cases S.par n (List.of_mem_zip hy).1 with
    | inl z => exact .inl z
    | inr z => exact .inr ⟨z, PySem.W.cellsFrom_some _ _ _ (.inl z)⟩
  refine codeAny_call_function room.depth (kin _ _ look) rfl S.co S.gen rfl (PySem.W.codeRec_of kin code) (bind _ _ _ _ ?_)
  refine wpAny_newFunctionEnv_cells S.kind kinds fun en he st1 inc => ?_
  subst he
  refine ⟨nolim.keeps inc.toInCall.keep, codeAny_func ?_⟩
  obtain ⟨t, drv, rdg⟩ := body A out st h xs Z W (room.deeper _) fr pre
  have inv : Inv (cxOf CX P w K mg base N ql sc f cv A out st h W) [] (start N xs) h st1 := inv_start S room.hd env (size _ _ _ _ pre) vals inc
  refine wpAny_mono (drv.run [] st1 (start N xs) h _ inv rdg) (fun flow st2 res => ?_) fun _ _ z => z
  cases flow with
  | ret u => exact let ⟨v, _, h2, J, rel, z⟩ := res; ⟨v, h2, J.os, J.bare, J.base, J.hok, rel, z⟩
  | next => exact let ⟨_, h2, J, z⟩ := res; ⟨.non, h2, J.os, J.bare, J.base, J.hok, rfl, z⟩
  | brk => exact (let ⟨_, _, _, z⟩ := res; z : False).elim
  | cont => exact (let ⟨_, _, _, z⟩ := res; z : False).elim
/-- the rule for a def of the text, nothing raised out of it -/
theorem fun_okG {x ql : Str} {stm : Stmt} {f : Addr} {fd : FuncData} {N ps : List Str} {k : Nat} {sp : Sp} (F : Fun K x ql stm f fd) (S : FnScope N ps (defScope stm)) (size : ∀ xs h Z W, sp xs h Z W → xs.length = ps.length)
    (body : ∀ (cv : Value) (A : Around) (out : List Env) (st : Shared) (h : Hp) (xs : List V) (Z : VK) (W : XK), Room k (A.deeper (envOfC ql (defScope stm) st.heap.objs.size f cv)) → Free A → sp xs h Z W →
      ∃ t, PSs (cxOf CX0 P w K mg base N ql (defScope stm) f cv A out st h W).nox (defBody stm) t ∧ t { nx := fun _ h' => Z .non h', rt := Z } (start N xs) h) : FnG P w K mg base CX0 (k + 1) f fd ps sp := by
  obtain ⟨c1, c2, c3, c4, c5, c6, cv, c8, c9, rfl, look, code⟩ := F.ex
  refine fnG_body look code S size fun A out st h xs Z W room fr pre => ?_
  obtain ⟨t, drv, rdg⟩ := body cv A out st h xs Z W room fr pre
  exact ⟨t, drv.nox, rdg⟩
end
/-! ### calls -/
section
variable {X : Cx} {CX : CXT}
theorem runG {k : Nat} {f : Addr} {fd : FuncData} {ps : List Str} {sp : Sp} {E : XK} {dv : List V} {dw : List Value} {pins : List (Addr × Obj)} {σ : L2.St} {h : Hp} {st : Shared} {Z : VK} {ws : List Value} {xs : List V} (F : FnG X.prog X.w X.K X.mg X.base CX k f fd ps sp) (fr : Free X.A) (room : Room k X.A)
    (bind : Binds X.K fd ps dw) (dr : Vals dv dw) (pass : Passes CX X E) (inv : Inv X pins σ h st) (rel : Vals xs ws) (pre : sp (xs ++ dv) h Z E) : wpAny (model X.prog X.w) X.A (call (.ref f) ws) (EP X pins σ Z) X.xe st := by
  have rel2 := rel.append dr
  have size : (ws ++ dw).length = ps.length := rel2.length.symm.trans (F.size _ _ _ _ pre)
  refine wpAny_call (codeAny_mono (F.go X.A fr X.stack st h ⟨ws, []⟩ _ _ Z E room inv.env0 (bind st ws inv.kIn size) rel2 pre) fun res st2 z => ?_)
  match res, z with
  | .error e, z => exact pass pins σ h st e st2 inv z
  | .ok (.ret u), z => exact inv.after z
  | .ok .next, z => exact z.elim
  | .ok .brk, z => exact z.elim
  | .ok .cont, z => exact z.elim
structure CalleeG (P : Program) (w : World) (K : PySem.W.Frag) (mg : Str → Option Value) (base : Heap) (CX : CXT) (k : Nat) (x : Str) (ps : List Str) (sp : Sp) : Prop where
  ex : ∃ (f : Addr) (fd : FuncData), FnG P w K mg base CX k f fd ps sp ∧ mg x = some (.ref f) ∧ PySem.W.keepIn K (.ref f) = true ∧ Binds K fd ps []
theorem pe_callG {k : Nat} {x : Str} {ps : List Str} {sp : Sp} {E : XK} {e : Expr} {es : List Expr} {p pos : Pos} {t : TA} (c : CalleeG X.prog X.w X.K X.mg X.base CX k x ps sp) (fr : Free X.A) (room : Room k X.A) (gl : Gl X x) (pass : Passes CX X E) (ha : PA X (e :: es) t)
    (d1 : (x == ("__debug__" : Str)) = false := by decide) (d2 : starEach (e :: es) X.env = (false, eval e X.env) :: starEach es X.env := by rfl) (d3 : (backTo pos (starEach es X.env)).any (·.1) = false := by rfl) :
    PE X (.Call (.Name x p) (e :: es) [] pos) (tCall sp [] E t) := by
  obtain ⟨f, fd, F, look, keep, bind⟩ := c.ex
  refine ⟨fun pins st σ h Z inv pre => wpAny_Call_Name_kw (ld_glob inv gl look ?_ d1)⟩
  refine PySem.W.callWith_K (h₀ := X.base) inv.ok.mod.kin keep (thn (ha.run pos pins st σ h _ inv pre) fun ws st1 res => ?_) d2 d3
  obtain ⟨xs, h1, inv1, rel, z⟩ := res
  exact ⟨inv1.kIn, runG F fr room bind .nil pass inv1 rel z⟩
end
/-! ### repr of data -/
section
variable {P : Program} {w : World} {A : Around} {E : Value → Shared → Prop} {s : Shared} {Z : Value → Shared → Prop}
theorem repr_slot {v : Value} {T id : String} (hu : A.units + 2 < cLine) (ty : s.TypeIs v T) (slot : SlotG T "__repr__" id)
    (h : wpAny (model P w) A.in1 (callSpecialIfBound? v (Str.ofString "__repr__")) (fun r st => ∃ (y : Str) (u : Tok), r = some (.str y u) ∧ Z (.str y u) st) E s) : wpAny (model P w) A (call (.builtin "repr") [v]) Z E s := by
  refine (Calls.call_function_entry F.kind_repr F.plain_repr F.entry_repr (F.args_repr1 _) ?_); unfold Builtin.«repr»
  refine (wpAny_bind (m := oneArg "repr" _) (wpAny_pure ?_))
  refine (wpAny_bind (wpAny_cRoomFor (show A.units + 1 < cLine by omega) ?_))
  refine (wpAny_bind (wpAny_specialOf (name := Str.ofString "__repr__") ty slot.lookup ?_))
  refine (wpAny_bind (m := callSpecialIfBound? v (Str.ofString "__repr__")) (wpAny_mono h (fun r st z => ?_) fun _ _ z => z))
  obtain ⟨y, u, rfl, z⟩ := z
  refine (wpAny_bind (wpAny_isInstance (T := "str") (b := true) rfl isSubtype_str_str ?_))
  exact (wpAny_pure ⟨.str y u, rfl, z⟩)
theorem repr_data {v : Value} {d : PyData} {as : List Addr} (r : Reads s.heap v d as) (ok : d.showable = true) (nod : d.hasDict = false) (sz : d.shown.length ≤ sizeLine) (fr : Free A) (hu : A.units + d.depth + 3 < cLine)
    (q : ∀ h' u tk, (∀ b o, s.heap.get? b = some o → h'.get? b = some o) → Z (.str d.shown u) { s with heap := h', toks := tk }) : wpAny (model P w) A (call (.builtin "repr") [v]) Z E s := by
  have nosys : d.hasDict = true → sysModules ∉ as := fun z => by rw [nod] at z; cases z
  cases r with
  | none =>
    simp only [PyData.shown] at q
    exact PySem.P.repr_of_none (q s.heap _ _ fun _ _ e => e)
  | bool b =>
    simp only [PyData.shown] at q
    exact PySem.P.repr_of_bool (q s.heap _ _ fun _ _ e => e)
  | int i t =>
    simp only [PyData.shown] at q
    exact PySem.P.repr_of_int (by simpa [PyData.showable] using ok) (q s.heap _ _ fun _ _ e => e)
  | str x t =>
    simp only [PyData.shown] at q sz
    exact PySem.P.repr_of_str (q s.heap _ _ fun _ _ e => e) sz
  | @list a o vs n xs as1 h1 h2 h3 h4 =>
    have sz' : (listText (PyData.shownAll xs)).length ≤ sizeLine := by simpa only [PyData.shown] using sz
    have ok' : PyData.showableAll xs = true := by simpa [PyData.showable] using ok
    have whole : Reads s.heap (.ref a) (.list xs) _ := .list h1 h2 h3 h4
    obtain ⟨bs, lim, kids⟩ := ReprAllK.of_readsAll (prog := P) (w := w) h4 ok' (fun z m => nosys (by simpa [PyData.hasDict] using z) (List.mem_cons_of_mem _ m)) (fun t ht => Nat.le_trans (listText_mem_le ht) sz')
    have off : a ∉ bs := not_mem_of_deeper whole (by simp only [PyData.depth]; omega) lim
    simp only [PyData.depth] at hu
    simp only [PyData.shown] at q
    have ty : s.TypeIs (.ref a) "list" := ⟨_, h1, h2⟩
    refine repr_slot (by omega) ty F.slot_list_repr.toG ?_
    obtain ⟨l⟩ := vs
    cases l with
    | nil =>
      have h4' : ReadsAll s.heap [] xs _ := h4
      cases h4'
      simp only [PyData.shownAll, listText_nil] at q
      refine (wpAny_callSpecialIfBound?_slot (name := Str.ofString "__repr__") ty F.slot_list_repr (call_list_repr_empty ty h1 h3 ?_))
      exact ⟨_, _, rfl, q s.heap _ _ fun _ _ e => e⟩
    | cons x l =>
      refine (wpAny_callSpecialIfBound?_slot (name := Str.ofString "__repr__") ty F.slot_list_repr (call_list_reprK h1 h2 h3 off (by simpa using kids.length_eq) (fun i y e => kids.item i y (by simpa using e)) fr (fun b _ => Clear.nil b) (show A.units + 1 + _ < cLine by omega) (fun _ _ e => e) (fun h' u tk kp => ?_) sz'))
      exact ⟨_, _, rfl, q h' u tk kp⟩
  | @tuple a o vs n xs as1 h1 h2 h3 h4 =>
    have sz' : (tupleText (PyData.shownAll xs)).length ≤ sizeLine := by simpa only [PyData.shown] using sz
    have ok' : PyData.showableAll xs = true := by simpa [PyData.showable] using ok
    have whole : Reads s.heap (.ref a) (.tuple xs) _ := .tuple h1 h2 h3 h4
    obtain ⟨bs, lim, kids⟩ := ReprAllK.of_readsAll (prog := P) (w := w) h4 ok' (fun z m => nosys (by simpa [PyData.hasDict] using z) m) (fun t ht => Nat.le_trans (tupleText_mem_le ht) sz')
    have off : a ∉ bs := not_mem_of_deeper whole (by simp only [PyData.depth]; omega) lim
    simp only [PyData.depth] at hu
    simp only [PyData.shown] at q
    have ty : s.TypeIs (.ref a) "tuple" := ⟨_, h1, h2⟩
    refine repr_slot (by omega) ty F.slot_tuple_repr ?_
    refine (wpAny_callSpecialIfBound?_slotG (name := Str.ofString "__repr__") ty F.slot_tuple_repr (call_tuple_reprK h1 h2 h3 off kids fr (fun b _ => Clear.nil b) (show A.units + 1 + _ < cLine by omega) (fun _ _ e => e) (fun h' u tk kp => ?_) sz'))
    exact ⟨_, _, rfl, q h' u tk kp⟩
  | dict => simp [PyData.hasDict] at nod
end
section
variable {X : Cx}
theorem vals_one {x : V} {us : List Value} (r : Vals [x] us) : ∃ u, us = [u] ∧ RelV x u := by
  cases r with
  | cons h t => cases t; exact ⟨_, rfl, h⟩
def rRepr (K : PySem.W.Frag) : List V → Hp → VK → Prop := fun xs H Q => ∃ (v : V) (d : PyData), xs = [v] ∧ Dp K H v d ∧ d.showable = true ∧ d.hasDict = false ∧ d.depth ≤ 60 ∧ d.shown.length ≤ sizeLine ∧ Q (.str d.shown) H
theorem call_reprD {k : Nat} (fr : Free X.A) (room : Room k X.A) : CallR X (.builtin "repr") (rRepr X.K) := by
  intro pins st σ h xs us Z inv rel pre
  obtain ⟨v, d, rfl, dp, ok, nod, deep, sz, z⟩ := pre
  obtain ⟨u, rfl, rv⟩ := vals_one rel
  obtain ⟨as, rd⟩ := Dp.reads inv d v u dp rv
  refine repr_data rd ok nod sz fr (by have := room.un; omega) fun h' t tk kp => ?_
  exact ⟨.str d.shown, h, inv.kept kp, ⟨t, rfl⟩, z⟩
end
/-! ### the law's end -/
theorem law_G {P : Program} {w : World} {K : PySem.W.Frag} {mg bm : Str → Option Value} {k : Nat} {fa a : Addr} {fd : FuncData} {x : Str} {sp : Sp} {st : Shared} {us : List Value} {ns : List Int}
    (kin : K.In st.heap) (gl : st.heap.Ns mainGlobals mg) (bl : st.heap.Ns builtinsNs bm) (bb : ∀ y : Str, y ≠ "__name__" → bm y = bootBuiltins y) (nolim : st.heap.NoLimit) (nogen : st.gens = #[])
    (at_ : st.heap.get? a = some { cls := .type "list", data := .seq us.toArray }) (allInt : IntsAre us ns) (few : ns.length ≤ sizeLine) (room : Room k callerA)
    (F : ∀ base : Heap, K.In base → base.Ns mainGlobals mg → FnG P w K mg base CX0 k fa fd [x] sp) (bind : ∀ (s : Shared) (u : Value), BindsTo s fd ⟨[u], []⟩ [(x, u)])
    (pre : ∀ H : Hp, SqL K H a (ns.map V.int) → sp [.ref a] H (fun v _ => v = .bl true) fun _ _ _ => False) :
    codeAny (model P w) callerA (.call (.ref fa) ⟨[.ref a], []⟩) (fun r s2 => r = .ok (.ret (.bool true)) ∧ OldK st.heap s2.heap ∧ s2.os = st.os ∧ AllBare s2.gens) st := by
  have main : ∀ H : Hp, (∀ b, H b = none ∨ ∃ o ys, H b = some (.frz o (.lst ys))) → SqL K H a (ns.map V.int) → HOk P w H st.heap → (∀ b, H b ≠ none → b = a) → (H a ≠ none → K.lookup a = none) →
      codeAny (model P w) callerA (.call (.ref fa) ⟨[.ref a], []⟩) (fun r s2 => r = .ok (.ret (.bool true)) ∧ OldK st.heap s2.heap ∧ s2.os = st.os ∧ AllBare s2.gens) st := by
    intro H only sq hok isA noK
    have free_of : ∀ {b : Addr} {o : Obj}, st.heap.get? b = some o → (∀ ys m, o.data ≠ .seq ys m) → H b = none := by
      intro b o e nd
      cases q : H b with
      | none => rfl
      | some z =>
        have eb := isA b (by rw [q]; simp)
        rw [eb, at_] at e
        exact absurd (congrArg Obj.data (Option.some.inj e)).symm (nd _ _)
    have kb : K.In (hidT st.heap H) := by
      intro b o e
      refine hidT_get (kin b o e) ?_
      cases q : H b with
      | none => rfl
      | some z =>
        have eb := isA b (by rw [q]; simp)
        rw [eb] at e q
        rw [noK (by rw [q]; simp)] at e
        cases e
    have ns_of : ∀ {b : Addr} {m : Str → Option Value}, st.heap.Ns b m → (hidT st.heap H).Ns b m := by
      intro b m h
      obtain ⟨o, es, ep, e, d, r⟩ := h
      exact ⟨o, es, ep, hidT_get e (free_of e (fun ys n z => by rw [d] at z; cases z)), d, r⟩
    have hm : Mod K mg (hidT st.heap H) := ⟨kb, ns_of gl, ⟨bm, ns_of bl, bb⟩, by obtain ⟨mc, z1, z2⟩ := nolim; exact ⟨mc, ns_of z1, z2⟩⟩
    have env : Env0 P w K mg (hidT st.heap H) callerA [] st H := ⟨rfl, hm, fun b o e => of_hidT e, Nat.le_of_eq (hidT_size _ _), trivial, fun b z => (List.not_mem_nil z).elim, hok, .of_eq nogen⟩
    refine codeAny_mono ((F _ kb (ns_of gl)).go callerA rfl [] st H ⟨[.ref a], []⟩ [.ref a] [.ref a] _ _ room env (bind st (.ref a)) (.cons rfl .nil) (pre H sq)) fun res s2 z => ?_
    match res, z with
    | .error e, z => exact z.elim
    | .ok .next, z => exact z.elim
    | .ok .brk, z => exact z.elim
    | .ok .cont, z => exact z.elim
    | .ok (.ret u), z =>
      obtain ⟨v, H2, z1, z2, un, hok2, rel, rfl⟩ := z
      obtain rfl : u = Value.bool true := rel
      refine ⟨rfl, OldK.of_keep fun b o e => ?_, z1, z2⟩
      cases q : H b with
      | none => exact un.keep b o e q (fun y => List.not_mem_nil y) (fun y => List.not_mem_nil y)
      | some y =>
        rcases only b with y1 | ⟨o1, ys, y1⟩
        · rw [q] at y1; cases y1
        · have y2 := (hok b _ y1).1
          have y3 := (hok2 b _ (un.frzs b o1 _ y1)).1
          rw [e] at y2
          rw [Option.some.inj y2]
          exact y3
  have vals := vals_ints allInt
  have lens := allInt.length
  cases look : K.lookup a with
  | some o =>
    have e := kin a o look
    rw [at_] at e
    obtain rfl := Option.some.inj e
    exact main (fun _ => none) (fun _ => .inl rfl) (.inr ⟨_, us.toArray, _, look, rfl, rfl, rfl, by rw [List.size_toArray, lens]; exact few, by simpa using vals⟩) (fun _ _ z => nomatch z) (fun _ z => (z rfl).elim) (fun z => (z rfl).elim)
  | none =>
    refine main (upd (fun _ => none) a (.frz { cls := .type "list", data := .seq us.toArray } (.lst (ns.map V.int)))) (fun b => ?_) (.inl (.inr ⟨_, upd_same⟩)) (fun b y z => ?_) (fun b z => ?_) fun _ => look
    · by_cases eb : b = a
      · rw [eb, upd_same]; exact .inr ⟨_, _, rfl⟩
      · rw [upd_ne eb]; exact .inl rfl
    · by_cases eb : b = a
      · subst eb
        rw [upd_same] at z
        obtain rfl := Option.some.inj z
        exact ⟨at_, by rw [List.length_map]; exact few, us, _, vals, at_⟩
      · rw [upd_ne eb] at z; cases z
    · by_cases eb : b = a
      · exact eb
      · exact absurd (upd_ne eb) z
/-- the goal that the head leaves, from the law's own promise -/
theorem walkG {l : PySem.W.OpenLaw} {n k : Nat} {q : Program} {loose : List Str} {XP : (Str → Option Value) → Heap → Prop} {YP : World → Heap → Prop} {d : DefRec} {K : Params → PySem.W.Frag} {sp : World → Sp} {x : Str}
    (hn : l.most = some n) (n2 : n ≤ sizeLine) (nodef : d.params.defaults = []) (room : Room k callerA) (hY : ∀ (w : World) (h : Heap), YP w h → (K w.params).In h)
    (F : ∀ (w : World) (mg : Str → Option Value) (fa : Addr) (h : Heap), (K w.params).In h → h.Ns mainGlobals mg → mg d.name = some (.ref fa) →
      ∃ fd : FuncData, (∀ (s : Shared) (u : Value), BindsTo s fd ⟨[u], []⟩ [(x, u)]) ∧ ∀ base : Heap, (K w.params).In base → base.Ns mainGlobals mg → FnG l.prog w (K w.params) mg base CX0 k fa fd [x] (sp w))
    (pre : ∀ (w : World) (H : Hp) (a : Addr) (ns : List Int), ns.length ≤ n → SqL (K w.params) H a (ns.map V.int) → sp w [.ref a] H (fun v _ => v = .bl true) fun _ _ _ => False) :
    PySem.W.WalkO q loose XP YP l.row.toRowW d [] (fun f vs => PySem.call f vs) := by
  refine Att.attach_call hn nodef fun w s0 st mg bm fa o pm cd doc a us ns G Y ho hd hcd hmg hobj allInt size nogen => ?_
  obtain ⟨fd, bind, hF⟩ := F w mg fa _ (hY w _ Y) G.T.g hmg
  exact law_G (hY w _ Y) G.T.g G.T.b G.T.builtins G.T.nolimit nogen hobj allInt (Nat.le_trans size n2) room hF bind fun H sq => pre w H a ns size sq
end KG

/-! KO: own objects: methods called by keywords, own ==, != by own ==, str by own __str__. -/
namespace KO
open PySem PySem.Spec PyProof.Rows L2 KB
section
variable {X : Cx}
/-- a def run in another Around, nothing raised out of it -/
theorem run0 {A' : Around} {k : Nat} {f : Addr} {fd : FuncData} {ps : List Str} {sp : Sp} {pins : List (Addr × Obj)} {σ : L2.St} {h : Hp} {st : Shared} {Z : VK} {ws : List Value} {xs : List V} {E' : Value → Shared → Prop} (F : FnOk X.prog X.w X.K X.mg X.base CX0 k f fd ps sp) (room : Room k A')
    (env : Env0 X.prog X.w X.K X.mg X.base A' X.stack st h) (bind : Binds X.K fd ps []) (inv : Inv X pins σ h st) (rel : Vals xs ws) (pre : sp xs h Z E0) : wpAny (model X.prog X.w) A' (call (.ref f) ws) (EP X pins σ Z) E' st := by
  have size : (ws ++ []).length = ps.length := by rw [List.append_nil, ← rel.length]; exact F.len _ _ _ _ pre
  have bd := bind st ws inv.kIn size
  rw [List.append_nil] at bd
  refine wpAny_call (codeAny_mono (F.run A' X.stack st h ⟨ws, []⟩ _ _ Z E0 room env bd rel pre) fun res st2 z => ?_)
  match res, z with
  | .error e, z => exact z.elim
  | .ok (.ret u), z => exact inv.after z
  | .ok .next, z => exact z.elim
  | .ok .brk, z => exact z.elim
  | .ok .cont, z => exact z.elim
theorem inst_of {pins : List (Addr × Obj)} {σ : L2.St} {h : Hp} {st : Shared} {a C dx : Addr} {fs : List (Str × V)} (inv : Inv X pins σ h st) (e : h a = some (.ins C dx fs)) : ∃ od, PySem.W.InstAt st.heap a (PySem.W.instObj C dx) C (some od) := by
  obtain ⟨mA, O, _⟩ := ins_get inv.hok e
  obtain ⟨od, J, _⟩ := O.look
  exact ⟨od, J⟩
/-! ### own == -/
def rEqOwn (K : PySem.W.Frag) (C : Addr) (sp : Sp) : R2 := fun x y H Q => ∃ a dx fs b C' dy gs, x = .ref a ∧ y = .ref b ∧ H a = some (.ins C dx fs) ∧ H b = some (.ins C' dy gs) ∧ PySem.W.notFirst K C (.ref C') = true ∧ sp [x, y] H Q E0
theorem op_eqOwn {C g : Addr} {fd : FuncData} {ps : List Str} {sp : Sp} {n : Nat} (hs : PySem.W.findIn X.K (.ref C) "__eq__" = some (some (.ref g))) (hf : PySem.W.isFn X.K (.ref g) = true) (F : FnOk X.prog X.w X.K X.mg X.base CX0 n g fd ps sp) (bind : Binds X.K fd ps [])
    (room : Room n X.A) : OpR X (compareOp .Eq) (rEqOwn X.K C sp) := by
  intro pins st σ h x y v u Z inv rx ry pre
  obtain ⟨a, dx, fs, b, C', dy, gs, rfl, rfl, ha, hb, nf, z⟩ := pre
  obtain rfl : v = Value.ref a := rx
  obtain rfl : u = Value.ref b := ry
  obtain ⟨od, J⟩ := inst_of inv ha
  obtain ⟨od', J'⟩ := inst_of inv hb
  obtain ⟨m, hF⟩ := inv.fr
  rw [show compareOp .Eq (.ref a) (.ref b) = richCompare .Eq (.ref a) (.ref b) from rfl]
  refine PySem.W.cmp_K (op := .Eq) (tb := .ref C') room.units0 hF inv.ok.mod.kin J J'.type nf hs hf ?_
  refine wpAny_mono (run0 (E' := X.xe) (xs := [.ref a, .ref b]) F room inv.env0 bind inv (.cons rfl (.cons rfl .nil)) z) (fun w s2 r => ?_) fun _ _ z => z
  obtain ⟨z', h2, inv2, rz, qz⟩ := r
  exact SlX.cmpback rz ⟨z', h2, inv2, rz, qz⟩
/-! ### != by own == -/
/-- what the text's class must be for it -/
structure NeCls (K : PySem.W.Frag) (C g : Addr) : Prop where
  ex : ∃ (nm q : Str) (N : Addr) (bs : List Value) (hd : Bool) (sn : List Str) (sub : List Value) (ab : Bool) (col : Option Bool) (dd : Option Addr) (k0 k1 k2 k3 k5 : Option Value) (nid : String),
    K.lookup C = some (excClassObj nm q C N bs [.type "object"] hd sn sub ab col dd k0 k1 k2 k3 k5 nid) ∧ PySem.W.nsOkIn K N = true ∧ PySem.W.nsIn K N "__eq__" = some (some (.ref g)) ∧ PySem.W.nsIn K N "__ne__" = some none
  fn : ∃ o : Obj, K.lookup g = some o ∧ o.cls = .type "function"
theorem ns_val {K : PySem.W.Frag} {h : Heap} {N : Addr} {m : Str → Option Value} {x : Str} {v : Value} (kin : K.In h) (G : h.Ns N m) (e : PySem.W.nsIn K N x = some (some v)) : m x = some v := by
  obtain ⟨o, es, ep, e1, e2, _, e3⟩ := G
  unfold PySem.W.nsIn at e
  split at e
  · rename_i q
    have z := kin _ _ q
    rw [e1] at z
    cases z
    cases e2
    split at e
    · rename_i w
      rw [← e3]
      unfold nsFind findBy
      rw [← Array.find?_toList, w]
      simpa using e
    · split at e <;> cases e
  · cases e
theorem NeCls.at {K : PySem.W.Frag} {C g a dx : Addr} {h : Heap} (c : NeCls K C g) (kin : K.In h) (ha : h.get? a = some (PySem.W.instObj C dx)) : h.OwnEqNoNe a C g "object" [.type "object"] := by
  obtain ⟨nm, q, N, bs, hd, sn, sub, ab, col, dd, k0, k1, k2, k3, k5, nid, e1, e2, e3, e4⟩ := c.ex
  obtain ⟨o, e5, e6⟩ := c.fn
  have hN : h.Ns N (h.nsMap N) := .of_isNs (PySem.W.isNs_of_in kin e2)
  exact ⟨_, o, nm, q, N, bs, hd, sn, sub, ab, col, dd, k0, k1, k2, k3, k5, nid, h.nsMap N, _, ha, rfl, kin _ _ e1, hN, ns_val kin hN e3, kin _ _ e5, e6, F.cmp_object.mro, F.cmp_object.eq.lookup, PySem.W.ns_none_of kin hN e4⟩
def rNeOwn (C : Addr) (sp : Sp) : R2 := fun x y H Q => ∃ a dx fs b dy gs, x = .ref a ∧ y = .ref b ∧ H a = some (.ins C dx fs) ∧ H b = some (.ins C dy gs) ∧ sp [x, y] H (fun v H' => ∃ c, v = .bl c ∧ Q (.bl (!c)) H') E0
theorem op_neOwn {C g : Addr} {fd : FuncData} {ps : List Str} {sp : Sp} {n : Nat} (c : NeCls X.K C g) (F : FnOk X.prog X.w X.K X.mg X.base CX0 n g fd ps sp) (bind : Binds X.K fd ps []) (room : Room (n + 1) X.A) : OpR X (compareOp .NotEq) (rNeOwn C sp) := by
  intro pins st σ h x y v u Z inv rx ry pre
  obtain ⟨a, dx, fs, b, dy, gs, rfl, rfl, ha, hb, z⟩ := pre
  obtain rfl : v = Value.ref a := rx
  obtain rfl : u = Value.ref b := ry
  obtain ⟨_, _, _, ga, _⟩ := inv.hok a _ ha
  obtain ⟨_, _, _, gb, _⟩ := inv.hok b _ hb
  have un := room.un
  refine compareOp_ne_ownEq (h := st.heap) (g := st.gens) (d := st.drawn) (t := st.toks) (os := st.os) PySem.F.cmp_object (c.at inv.kIn ga) gb rfl (by omega) ?_
  refine wpAny_mono (run0 (E' := X.xe) (xs := [.ref a, .ref b]) F room.in1 inv.env0.in1 bind inv (.cons rfl (.cons rfl .nil)) z) (fun w s2 r => ?_) fun _ _ z => z
  obtain ⟨v', h2, inv2, rz, cc, rfl, q2⟩ := r
  obtain rfl : w = Value.bool cc := rz
  exact ⟨cc, rfl, ⟨.bl (!cc), h2, inv2, rfl, q2⟩⟩
/-! ### str(o) by own __str__ -/
def rStrOwn (C : Addr) (sp : Sp) : List V → Hp → VK → Prop := fun xs H Q => ∃ a dx fs, xs = [.ref a] ∧ H a = some (.ins C dx fs) ∧ sp [.ref a] H (fun v H' => ∃ t, v = .str t ∧ Q (.str t) H') E0
theorem call_strOwn {C g : Addr} {fd : FuncData} {ps : List Str} {sp : Sp} {n : Nat} (hs : PySem.W.findIn X.K (.ref C) "__str__" = some (some (.ref g))) (hf : PySem.W.isFn X.K (.ref g) = true) (F : FnOk X.prog X.w X.K X.mg X.base CX0 n g fd ps sp) (bind : Binds X.K fd ps [])
    (room : Room (n + 2) X.A) : CallR X (.type "str") (rStrOwn C sp) := by
  intro pins st σ h xs us Z inv rel pre
  obtain ⟨a, dx, fs, rfl, ha, z⟩ := pre
  obtain ⟨u, rfl, ru⟩ : ∃ u, us = [u] ∧ RelV (.ref a) u := by
    cases rel with
    | cons e t => cases t; exact ⟨_, rfl, e⟩
  obtain rfl : u = Value.ref a := ru
  obtain ⟨od, J⟩ := inst_of inv ha
  have un := room.un
  refine PySem.W.kso_call (show X.A.units + 1 + 1 < cLine by omega) inv.kIn J hs hf ?_
  refine wpAny_mono (run0 (E' := X.xe) (xs := [.ref a]) F room.in1.in1 inv.env0.in1.in1 bind inv (.cons rfl .nil) z) (fun w s2 r => ?_) fun _ _ z => z
  obtain ⟨v', h2, inv2, rz, t, rfl, q2⟩ := r
  obtain ⟨tk, rfl⟩ : ∃ tk, w = Value.str t tk := rz
  exact ⟨.str t, h2, inv2, ⟨tk, rfl⟩, q2⟩
/-! ### o.m(.., k = v, ..) -/
structure CalleeMK (P : Program) (w : World) (K : PySem.W.Frag) (mg : Str → Option Value) (base : Heap) (k : Nat) (C : Addr) (m : Str) (ps : List Str) (sp : Sp) (n : Nat) (ks : List Str) (gV : List V → List V → List V) : Prop where
  ex : ∃ (f : Addr) (fd : FuncData) (g : List Value → List Value → List Value), FnOk P w K mg base CX0 k f fd ps sp ∧ Meth K C m f ∧ KBn K fd ps (n + 1) ks g gV
  cl : Cls K C
def tMethK0 (C : Addr) (m : Str) (n : Nat) (sp : Sp) (gV : List V → List V → List V) (ta : TE) (tk : TA) : TE := fun σ H Q => ta σ H fun x H1 => ∃ a dx fs, x = .ref a ∧ H1 a = some (.ins C dx fs) ∧ fs.lookup m = none ∧ tk σ H1 fun zs H2 => zs.length = n ∧ sp (gV [.ref a] zs) H2 Q E0
theorem pe_methK0 {pl : Sem Bool} {k : Nat} {C : Addr} {m : Str} {ps ks : List Str} {sp : Sp} {gV : List V → List V → List V} {o : Expr} {kws : List Keyword} {apos pos : Pos} {ta : TE} {tk : TA} (c : CalleeMK X.prog X.w X.K X.mg X.base k C m ps sp 0 ks gV) (ho : PE X o ta) (room : Room k X.A) (hkw : PK X kws tk)
    (d1 : (backToKw pos (keywordEach kws X.env)).all (·.1.isSome) = true := by rfl) (d2 : (backToKw pos (keywordEach kws X.env)).filterMap (·.1) = ks := by rfl) (d3 : ((backTo pos (starEach [] X.env)).any (·.1) || (backToKw pos (keywordEach kws X.env)).any (·.1.isNone)) = false := by rfl)
    (d4 : eval (.Call (.Attribute o m apos) [] kws pos) X.env = (do
      let ov ← eval o X.env
      standAt apos.atName
      let (f, first) ← holding [ov] (getMethod ov m pl)
      callWith pos f first (backTo pos (starEach [] X.env)) (backToKw pos (keywordEach kws X.env))) := by rfl) :
    PE X (.Call (.Attribute o m apos) [] kws pos) (tMethK0 C m ks.length sp gV ta tk) := by
  obtain ⟨f, fd, g, F, hm, hb⟩ := c.ex
  refine ⟨fun pins st σ h Z inv pre => PySem.W.methodCall_KW (pl := pl) (thn (ho.run pins st σ h _ inv pre) fun u s1 r => ?_) d4⟩
  obtain ⟨x, h1, inv1, rx, a, dx, fs, rfl, ea, no, z⟩ := r
  obtain rfl : u = Value.ref a := rx
  refine getmeth_ok inv1 ea c.cl hm no (PySem.W.callWith_KW0 (first := [.ref a]) (h₀ := X.base) inv.ok.mod.kin hm.kp d1 (thn (hkw.run pos pins s1 σ h1 _ inv1 z) fun ws s2 r => ?_) d3)
  obtain ⟨zs, h2, inv2, rel, l2, z2⟩ := r
  refine ⟨inv2.kIn, ?_⟩
  rw [d2]
  exact run_fnN (us := [.ref a]) (vs := [.ref a]) F room hb pass0 inv2 (.cons rfl .nil) rel rfl l2 z2
theorem r_methK0 {σ : L2.St} {H : Hp} {Q : VK} {C : Addr} {m : Str} {n : Nat} {sp : Sp} {gV : List V → List V → List V} {ta : TE} {tk : TA}
    (q : ta σ H fun x H1 => ∃ a dx fs, x = .ref a ∧ H1 a = some (.ins C dx fs) ∧ fs.lookup m = none ∧ tk σ H1 fun zs H2 => zs.length = n ∧ sp (gV [.ref a] zs) H2 Q E0) : tMethK0 C m n sp gV ta tk σ H Q := q
/-! ### an item of a dict of the text -/
theorem ix_kd {d : Addr} {es : Array DictEntry} {n : Nat} (D : KDict X.K X.w d es n) : IxR X (fun x y H Q => ∃ (z : Str) (u0 : Value) (v0 : V), x = .ref d ∧ y = .str z ∧ PySem.W.nsIn X.K d z = some (some u0) ∧ RelV v0 u0 ∧ Q v0 H) := by
  intro value slice pins st σ h x y v u Z inv rx ry pre hs
  have pre' := pre
  obtain ⟨z, u0, v0, rfl, rfl, e, r, q⟩ := pre'
  obtain rfl : v = Value.ref d := rx
  have ty : st.TypeIs (.ref d) "dict" := ⟨_, inv.kIn _ _ D.at_, rfl⟩
  exact tail_any ty PySem.F.slot_dict_getitem.lookup (op_item_kd D pins st σ h (.ref d) (.str z) _ u Z inv rfl ry pre) hs
theorem r_joined {σ : L2.St} {H : Hp} {te : TE} {ts : List TE} {acc : Str} {QJ : Str → Hp → Prop} (q : te σ H fun x H1 => ∃ y : Str, x = .str y ∧ (acc ++ y).length ≤ sizeLine ∧ tJs ts (acc ++ y) σ H1 QJ) : tJs (te :: ts) acc σ H QJ := q
theorem r_joined0 {σ : L2.St} {H : Hp} {acc : Str} {QJ : Str → Hp → Prop} (q : QJ acc H) : tJs [] acc σ H QJ := q
theorem r_fmt {σ : L2.St} {H : Hp} {te : TE} {Q : VK} (q : te σ H fun x H1 => (∃ y : Str, x = .str y ∧ y.length ≤ sizeLine ∧ Q (.str y) H1) ∨ ∃ i : Int, x = .int i ∧ i.natAbs.log2 < 1920 ∧ Q (.str (toString i)) H1) : tFmt te σ H Q := q
theorem r_fmtS {H : Hp} {Q : VK} {z : Str} {B : Prop} (h : z.length ≤ sizeLine) (q : Q (.str z) H) : (∃ y : Str, V.str z = .str y ∧ y.length ≤ sizeLine ∧ Q (.str y) H) ∨ B := .inl ⟨z, rfl, h, q⟩
/-- C(k = v, ..) -/
structure CalleeIK (P : Program) (w : World) (K : PySem.W.Frag) (mg : Str → Option Value) (base : Heap) (CX : CXT) (k : Nat) (C : Addr) (x : Str) (ps : List Str) (sp : Sp) (ks : List Str) (gV : List V → List V → List V) : Prop where
  ex : ∃ (f : Addr) (fd : FuncData) (g : List Value → List Value → List Value), FnOk P w K mg base CX k f fd ps sp ∧ Mk K C f ∧ mg x = some (.ref C) ∧ KBn K fd ps 1 ks g gV
theorem pe_makeKC {CX : CXT} {k : Nat} {C : Addr} {x : Str} {ps ks : List Str} {sp : Sp} {gV : List V → List V → List V} {E : XK} {kws : List Keyword} {p pos : Pos} {tk : TA} (c : CalleeIK X.prog X.w X.K X.mg X.base CX k C x ps sp ks gV) (room : Room (k + 1) X.A) (gl : Gl X x) (pass : Passes CX X E) (hkw : PK X kws tk)
    (d1 : (backToKw pos (keywordEach kws X.env)).all (·.1.isSome) = true := by rfl) (d2 : (backToKw pos (keywordEach kws X.env)).filterMap (·.1) = ks := by rfl) (d3 : (x == ("__debug__" : Str)) = false := by decide)
    (d4 : ((backTo pos (starEach [] X.env)).any (·.1) || (backToKw pos (keywordEach kws X.env)).any (·.1.isNone)) = false := by rfl) :
    PE X (.Call (.Name x p) [] kws pos) (tMakeK C 0 ks.length sp gV E tNil tk) := by
  obtain ⟨f, fd, g, F, M, hm, hb⟩ := c.ex
  exact pe_makeK0 M F room gl hm hb pass hkw d1 d2 d3 d4
theorem r_makeK {σ : L2.St} {H : Hp} {Q : VK} {C : Addr} {n m : Nat} {sp : Sp} {gV : List V → List V → List V} {E : XK} {t tk : TA} (q : t σ H fun vs H1 => tk σ H1 fun zs H2 => vs.length = n ∧ zs.length = m ∧ ∀ x dx, H2 x = none → H2 dx = none → dx ≠ x →
    sp (gV (.ref x :: vs) zs) (upd (upd H2 dx (.own x)) x (.ins C dx [])) (fun v H3 => v = .non ∧ Q (.ref x) H3) E) : tMakeK C n m sp gV E t tk σ H Q := q
/-- a special method of the text's class; the class for != -/
structure OwnM (P : Program) (w : World) (K : PySem.W.Frag) (mg : Str → Option Value) (base : Heap) (k : Nat) (C : Addr) (m : Str) (ps : List Str) (sp : Sp) : Prop where
  ex : ∃ (g : Addr) (fd : FuncData), PySem.W.findIn K (.ref C) m = some (some (.ref g)) ∧ PySem.W.isFn K (.ref g) = true ∧ FnOk P w K mg base CX0 k g fd ps sp ∧ Binds K fd ps []
structure OwnNe (P : Program) (w : World) (K : PySem.W.Frag) (mg : Str → Option Value) (base : Heap) (k : Nat) (C : Addr) (ps : List Str) (sp : Sp) : Prop where
  ex : ∃ (g : Addr) (fd : FuncData), NeCls K C g ∧ FnOk P w K mg base CX0 k g fd ps sp ∧ Binds K fd ps []
theorem call_strO {C : Addr} {ps : List Str} {sp : Sp} {n : Nat} (c : OwnM X.prog X.w X.K X.mg X.base n C "__str__" ps sp) (room : Room (n + 2) X.A) : CallR X (.type "str") (rStrOwn C sp) := by
  obtain ⟨g, fd, h1, h2, F, b⟩ := c.ex
  exact call_strOwn h1 h2 F b room
theorem op_eqO {C : Addr} {ps : List Str} {sp : Sp} {n : Nat} (c : OwnM X.prog X.w X.K X.mg X.base n C "__eq__" ps sp) (room : Room n X.A) : OpR X (compareOp .Eq) (rEqOwn X.K C sp) := by
  obtain ⟨g, fd, h1, h2, F, b⟩ := c.ex
  exact op_eqOwn h1 h2 F b room
theorem op_neO {C : Addr} {ps : List Str} {sp : Sp} {n : Nat} (c : OwnNe X.prog X.w X.K X.mg X.base n C ps sp) (room : Room (n + 1) X.A) : OpR X (compareOp .NotEq) (rNeOwn C sp) := by
  obtain ⟨g, fd, h1, F, b⟩ := c.ex
  exact op_neOwn h1 F b room
end
end KO

/-! KX: own error classes over ValueError whose __init__ says super().__init__(text) and sets one field. -/
namespace KX
open PySem PySem.Spec PyProof.Rows L2 KB
/-- the frame of such an __init__ -/
def supCx (CXx : CXT) (P : Program) (w : World) (K : PySem.W.Frag) (mg : Str → Option Value) (base : Heap) (N : List Str) (ql : Str) (sc : Scope) (f cda cc : Addr) (A : Around) (out : List Env) (st : Shared) (h : Hp) (W : XK) : Cx where
  prog := P
  w := w
  K := K
  mg := mg
  base := base
  A := A.deeper (PySem.W.ksEnv ql sc st.heap.objs.size f (.ref cda) cc)
  N := N
  s_0 := st
  H_0 := h
  env := PySem.W.ksEnv ql sc st.heap.objs.size f (.ref cda) cc
  outer := out
  stack := PySem.W.ksEnv ql sc st.heap.objs.size f (.ref cda) cc :: out
  ex := []
  fn := fun _ => false
  calm := true
  pn := []
  xe := fun e s' => wpAny (model P w) (A.deeper (PySem.W.ksEnv ql sc st.heap.objs.size f (.ref cda) cc)) (leaving (PySem.W.ksEnv ql sc st.heap.objs.size f (.ref cda) cc) e) (fun _ s'' => CXx out h st W e s'') (fun e' s'' => CXx out h st W e' s'') s'
theorem cls_only {y : Str} {cc c : Addr} (e : ([(("__class__" : Str), cc)] : List (Str × Addr)).lookup y = some c) : y = "__class__" ∧ c = cc := by
  simp only [List.lookup] at e
  split at e
  · rename_i z
    exact ⟨by simpa using z, (Option.some.inj e).symm⟩
  · cases e
theorem inv_sup {CXx : CXT} {P : Program} {w : World} {K : PySem.W.Frag} {mg : Str → Option Value} {base : Heap} {vn ql : Str} {sc : Scope} {f cda cc : Addr} {A : Around} {out : List Env} {st : Shared} {h : Hp} {W : XK} {u1 u2 : Value} {v1 v2 : V} {h1 : Heap} {tk : Nat} {cl : Value} {cld : Option Addr} {csl : Array (Option Value)} {cv : Option Value}
    (e0 : Env0 P w K mg base A out st h) (hd : A.handled = none) (kind : sc.kind = .function) (nocell : ∀ y ∈ sc.names, y.2 ≠ .cell) (nofree : ∀ y, sc.names.lookup y = some .free → y = "__class__") (l1 : sc.names.lookup ("self" : Str) = some .local) (l2 : sc.names.lookup vn = some .local) (nv : vn ≠ "self")
    (hc : K.lookup cc = some ⟨cl, cld, .cell cv, csl⟩) (hns : h1.Ns st.heap.objs.size (fun y => ([(("self" : Str), u1), (vn, u2)] : List (Str × Value)).reverse.lookup y)) (kp : ∀ b o, st.heap.get? b = some o → h1.get? b = some o) (r1 : RelV v1 u1) (r2 : RelV v2 u2) :
    Inv (supCx CXx P w K mg base ["self", vn] ql sc f cda cc A out st h W) [] [some v1, some v2] h { st with heap := h1, toks := tk } := by
  have noA : ∀ b : Addr, b ∉ (supCx CXx P w K mg base ["self", vn] ql sc f cda cc A out st h W).ex := fun b z => absurd (show b ∈ ([] : List Addr) from z) (by simp)
  have ccb := e0.bs _ _ (e0.mod.kin _ _ hc)
  refine ⟨⟨e0.mod, kind, rfl, rfl, Nat.le_refl _, fun y z c a b => (cls_only a).1.trans (cls_only b).1.symm, fun y hy => ?_, fun y c z _ => ?_, fun _ => hd, Around.frames_deeper e0.frames, .inr ⟨rfl, rfl⟩, fun b z => absurd z (noA b), e0.bs, e0.bsz, fun b _ _ => noA b, fun b z => absurd z (noA b), e0.funs, e0.frf⟩,
    rfl, e0.bare, Un.kept kp, ⟨_, hns, fun i y v a b c => ?_⟩, fun y c e => ?_, e0.hok.fresh (Nat.le_refl _), fun y c e => ?_, fun p hp => absurd (show p ∈ ([] : List (Addr × Obj)) from hp) (by simp), e0.hok.kept kp, rfl⟩
  · have hy : sc.names.lookup y = some .cell ∨ sc.names.lookup y = some .free := hy
    rcases hy with hy | hy
    · exact absurd rfl (nocell _ (PySem.mem_of_lookup hy))
    · rw [nofree y hy]
      exact ⟨cc, rfl⟩
  · have z : false = true := z
    cases z
  · match i, a, b with
    | 0, a, b =>
      obtain rfl : ("self" : Str) = y := Option.some.inj a
      obtain rfl : v1 = v := Option.some.inj (Option.some.inj b)
      refine ⟨u1, r1, .inl ⟨l1, ?_⟩⟩
      have nv' : ¬ (("self" : Str) == vn) = true := by simpa using fun z : ("self" : Str) = vn => nv z.symm
      simp [List.lookup, nv']
    | 1, a, b =>
      obtain rfl : vn = y := Option.some.inj a
      obtain rfl : v2 = v := Option.some.inj (Option.some.inj b)
      exact ⟨u2, r2, .inl ⟨l2, by simp [List.lookup]⟩⟩
    | i + 2, a, b => cases a
  · obtain ⟨rfl, rfl⟩ := cls_only e
    exact ⟨cv, _, kp _ _ ccb.1, rfl⟩
  · obtain ⟨rfl, rfl⟩ := cls_only e
    exact ccb.2
section
variable {prog : Program} {w : World} {A : Around} {E : Value → Shared → Prop} {h : Heap} {g : Array GenState} {d : Drawn} {t : Nat} {os : OsState}
variable {nm q : Str} {C N : Addr} {bs bm : List Value} {hdct : Bool} {sn : List Str} {sub : List Value} {ab : Bool} {col : Option Bool} {dd : Option Addr} {k0 k1 k2 k3 k5 : Option Value}
theorem call_mw {u e t0 : Addr} {rest : List Value} {Q : Value → Shared → Prop}
    (hC : h.get? C = some (excClassObj nm q C N bs bm hdct sn sub ab col dd k0 k1 k2 k3 k5 "ValueError.__new__")) (he : h.get? e = some (HandSPX.excO C t0)) (hu : h.get? u = some (PySem.W.kxs_mw "ValueError.__init__" e)) (hrest : rest.length ≤ sizeLine)
    (hq : ∀ h' t1, (∀ b o, b ≠ e → h.get? b = some o → h'.get? b = some o) → h'.get? e = some (HandSPX.excO C t1) → Q .none ⟨h', g, d, t, os⟩) :
    wpAny (model prog w) A (call (.ref u) rest) Q E ⟨h, g, d, t, os⟩ := by
  refine (wpAny_call (codeAny_of_tree ?_)); show wpAny _ A.in1 (callAny (.ref u) ⟨rest, []⟩) _ _ _; simp only [callAny]
  refine (wpAny_bind (wpAny_load hu ?_))
  simp only [PySem.W.kxs_mw, show (Value.type "method-wrapper" == Value.type "method" || Value.type "method-wrapper" == Value.type "builtin_function_or_method" || Value.type "method-wrapper" == Value.type "method-wrapper") = true by decide, if_true]
  refine (W.KFB.if_so (by decide) ?_)
  refine (wpAny_bind (ESX.check_bound F.excBase_ValueError hC he rfl ?_))
  refine (wpAny_bind (wpAny_pure (wpAny_pure ?_)))
  refine (⟨Code.quiet_builtin _ (by decide +kernel), codeAny_builtin F.excBase_ValueError.initEntry ?_⟩)
  rw [Around.under_plainId F.excBase_ValueError.init.plain _]; wp_walk
  refine hq _ h.objs.size (fun b o n e1 => ?_) ?_
  · exact (Heap.get?_update_other _ _ (Ne.symm n)).trans (Heap.get?_push_of_some _ e1)
  · exact Heap.get?_update_self _ (Heap.get?_push_of_some _ he) rfl
end
/-- what the text says of such an __init__ of the class at C -/
structure SupFn (K : PySem.W.Frag) (P : Program) (f : Addr) (fd : FuncData) (C : Addr) (vn fld : Str) : Prop where
  ex : ∃ (ql : Str) (pr : Arguments) (sc : Scope) (dV kV doc pm ct oc ccl cl : Value) (an od cdd cld : Option Addr) (osl ccs csl : Array (Option Value)) (cda cc : Addr) (vs : Array Value) (file : Str) (tf : Tok) (p0 p1 p2 p3 p4 p5 q1 q2 q3 q4 : Pos) (msg : Str) (j : Nat) (ar : Arg) (pl : Sem Bool),
    fd = PySem.W.ksFn "__init__" ql pr [.Expr (.Call (.Attribute (.Call (.Name "super" p0) [] [] p1) "__init__" p2) [.Constant (.str msg) j p3] [] p4) p5, .Assign [.Attribute (.Name "self" q1) fld q2] (.Name vn q3) q4] sc dV kV doc pm an (.ref cda) ct cc ∧
    K.lookup f = some ⟨oc, od, .func fd, osl⟩ ∧ PySem.W.codeIn K (.ref cda) ql = true ∧ K.lookup cda = some ⟨ccl, cdd, .fields vs, ccs⟩ ∧ vs[2]? = some (.str file tf) ∧ ((P.main.file : Str) == file) = true ∧
    K.lookup cc = some ⟨cl, cld, .cell (some (.ref C)), csl⟩ ∧ (pr.posonlyargs ++ pr.args).head? = some ar ∧ ar.arg = "self" ∧
    sc.kind = .function ∧ sc.isCoroutine = false ∧ sc.isGenerator = false ∧ (∀ y ∈ sc.names, y.2 ≠ .cell) ∧ (∀ y, sc.names.lookup y = some .free → y = "__class__") ∧ sc.names.lookup ("super" : Str) = some .globalImplicit ∧ sc.names.lookup ("__class__" : Str) = some .free ∧
    sc.names.lookup ("self" : Str) = some .local ∧ sc.names.lookup vn = some .local ∧
    (∀ en : Env, eval (.Call (.Attribute (.Call (.Name "super" p0) [] [] p1) "__init__" p2) [.Constant (.str msg) j p3] [] p4) en = (do
      let ov ← attributeBase (.Call (.Name "super" p0) [] [] p1) "__init__" en (eval (.Call (.Name "super" p0) [] [] p1) en)
      standAt p2.atName
      let (g, first) ← holding [ov] (getMethod ov "__init__" pl)
      callWith p4 g first (backTo p4 (starEach [.Constant (.str msg) j p3] en)) []))
  top : (P.main.scope.names.lookup ("super" : Str)).isSome = false
  nv : vn ≠ "self" ∧ (vn == ("__debug__" : Str)) = false ∧ (vn == ("__classdict__" : Str)) = false
  opq : PySem.W.nsIn K cStatics "thirdparty.any" = some none
  sub : PySem.W.mroIn K C (.ref C) = some true
  ve : PySem.W.mroIn K C (.type "ValueError") = some true
  sup : PySem.W.ks_superIn K C C "__init__" = some (some (.builtin "ValueError.__init__"))
  nof : PySem.W.findIn K (.ref C) fld = some none
def spXI (C : Addr) (fld : Str) : Sp := fun vs H Q _ => ∃ (a : Addr) (v : V), vs = [.ref a, v] ∧ H a = some (exo a C none) ∧ ∀ dx, H dx = none → dx ≠ a → Q .non (upd (upd H dx (exd dx [(fld, v)])) a (exo a C (some dx)))
theorem sup_ok {P : Program} {w : World} {K : PySem.W.Frag} {mg : Str → Option Value} {base : Heap} {k : Nat} {f C : Addr} {fd : FuncData} {vn fld : Str} (S : SupFn K P f fd C vn fld) (T : OexC K C) (hm : mg "super" = none) (hboot : bootBuiltins "super" = some (.type "super")) : FnOk P w K mg base CX0 (k + 1) f fd ["self", vn] (spXI C fld) := by
  refine ⟨fun xs h Z W z => ?_, fun A out st h ar0 ws xs Z W room env bind vals pre => ?_⟩
  · obtain ⟨a, v, rfl, _⟩ := z
    rfl
  obtain ⟨a, v, rfl, ha, q⟩ := pre
  obtain ⟨u1, u2, rfl, r1, r2⟩ := vals2 vals
  obtain ⟨ql, pr, sc, dV, kV, doc, pm, ct, oc, ccl, cl, an, od, cdd, cld, osl, ccs, csl, cda, cc, vs, file, tf, p0, p1, p2, p3, p4, p5, q1, q2, q3, q4, msg, j, ar, pl, rfl, lf, cdf, lcd, hvs, hfile, lcc, hp, har, kind, nco, ngen, nocell, nofree, ks, kc, kself, kvn, hev⟩ := S.ex
  have kin : K.In st.heap := env.mod.kin.keeps fun b o e => (env.bs b o e).1
  have nolim : st.heap.NoLimit := env.mod.nolimit.keeps fun b o e => (env.bs b o e).1
  refine ks_codeAny_call_defAt (binds := [("self", u1), (vn, u2)]) room.depth (kin _ _ lf) rfl nolim (PySem.W.codeRec_of kin cdf) rfl bind nocell (fun y hy => ?_) (fun h1 hns kp => ?_) nco ngen kind
  · simp only [List.mem_cons, List.not_mem_nil, or_false] at hy
    rcases hy with rfl | rfl
    · exact kself
    · exact kvn
  obtain rfl : u1 = Value.ref a := r1
  have I : Inv (supCx CX0 P w K mg base ["self", vn] ql sc f cda cc A out st h W) [] [some (.ref a), some v] h { st with heap := h1, toks := st.toks + 2 } := inv_sup env room.hd kind nocell nofree kself kvn S.nv.1 lcc hns kp rfl r2
  have hi : interactive (PySem.W.ksEnv ql sc st.heap.objs.size f (.ref cda) cc) = false := by
    unfold interactive
    simp [kind]
  refine ks_wpAt_execs_cons (ks_wpAt_Expr_any (env := PySem.W.ksEnv ql sc st.heap.objs.size f (.ref cda) cc) ?_ hi)
  refine ks_wpAt_MethodCall (pl := pl) (env := PySem.W.ksEnv ql sc st.heap.objs.size f (.ref cda) cc) ?_ (hev _)
  have bk := I.bk
  have kin1 : K.In h1 := I.kIn
  obtain ⟨t1, ga⟩ := exo_at I.hok ha
  obtain ⟨nm, qn, N, bs, bm, sn, sub, ab, col, dd, k0, k1, k2, k3, k5, hC, hbm⟩ := T.cls
  have hcl : PySem.W.clsIn K C = some { name := nm, bases := bs, mro := .ref C :: bm, ns := N, qualname := qn, hasDict := true, slotNames := sn, subclasses := sub, abstract := ab, collection := col, hasDel := false } := by unfold PySem.W.clsIn; rw [hC] <;> rfl
  obtain ⟨mb, b1, b2⟩ := env.mod.blt
  have kb : ∀ b o, base.get? b = some o → h1.get? b = some o := fun b o e => kp b o (env.bs b o e).1
  refine ks_wpAt_super_base (env := PySem.W.ksEnv ql sc st.heap.objs.size f (.ref cda) cc) ks kc (by decide) rfl (kin1 _ _ lf) rfl hp rfl (kin1 _ _ lcd) rfl hvs hfile S.top ?_
  refine PySem.W.ks_loadName_global kind ks (Calls.loadGlobal_builtin (env := PySem.W.ksEnv ql sc st.heap.objs.size f (.ref cda) cc) (env.mod.glob.keeps kb) hm (b1.keeps kb) ((b2 "super" (by decide)).trans hboot) ⟨rfl, ?_⟩)
  refine wpAny_loadName_free kind kc rfl ⟨_, kin1 _ _ lcc, rfl⟩ ?_
  rw [har]
  refine wpAny_loadName_local kind kself hns (v := .ref a) ?_ ?_
  · have nv' : ¬ (("self" : Str) == vn) = true := by simpa using fun z : ("self" : Str) = vn => S.nv.1 z.symm
    simp [List.lookup, nv']
  refine ks_wpAny_isType_cls (kin1 _ _ hC) rfl ⟨rfl, ?_⟩
  refine ks_wpAny_call_super (kin1 _ _ hC) rfl ga rfl (fun c z => by cases z) (PySem.W.looks_mroIn kin1 S.sub) (fun h2 e2 kp2 => ?_)
  have kin2 : K.In h2 := kin1.keeps kp2
  have J2 : PySem.W.InstAt h2 a _ C none := ⟨kp2 _ _ ga, rfl, rfl, trivial⟩
  have hsup : PySem.W.alongIn K "__init__" (((Value.ref C :: bm).dropWhile (· != .ref C)).drop 1) = some (some (.builtin "ValueError.__init__")) := by
    have z := S.sup
    unfold PySem.W.ks_superIn at z
    rw [hcl] at z
    exact z
  refine PySem.W.kxs_getMethod PySem.W.kxs_ValueError e2 (PySem.W.looks_opaque kin2 S.opq) (l₀ := Value.ref C :: bm) (fun A Q E s k q => wpAny_bind ((PySem.W.looks_clsIn kin2 hcl) A _ E s k (wpAny_pure q))) rfl kin2 hsup (J2.type.andThen (PySem.W.looks_mroIn kin2 S.ve)) (PySem.W.ks_ne kin2 J2 hcl) (by decide) ?_
  have gu : (h2.push (PySem.W.kxs_mw "ValueError.__init__" a)).get? h2.objs.size = some (PySem.W.kxs_mw "ValueError.__init__" a) := Heap.get?_push_at rfl rfl
  have kp3 : ∀ b o, h1.get? b = some o → (h2.push (PySem.W.kxs_mw "ValueError.__init__" a)).get? b = some o := fun b o e => Heap.get?_push_of_some _ (kp2 _ _ e)
  refine PySem.W.kxs_callWith (i := "ValueError.__init__") (x := a) rfl ?_
  refine Calls.evalArgs_plain (x := eval (.Constant (.str msg) j p3) (PySem.W.ksEnv ql sc st.heap.objs.size f (.ref cda) cc)) (rest := []) ?_
  refine Calls.spliced_cons (Calls.Constant_str (Calls.spliced_nil ?_))
  refine ⟨gu, ?_⟩
  refine call_mw (kp3 _ _ (kin1 _ _ hC)) (kp3 _ _ ga) gu (show 1 ≤ sizeLine by decide) (fun h4 t4 kp4 ga4 => ?_)
  have J0 := (I.kept (t' := 0) kp3).write (t' := st.toks + 2 + 1 + 1) (x := a) (e := a) (o := exo a C none) (by rw [ha]; exact True.intro) (.inl rfl) kp4 ⟨_, ga4⟩ (exo_ok ga4)
  have eu : upd h a (exo a C none) = h := by
    funext b
    by_cases hb : b = a
    · rw [hb, upd_same, ha]
    · rw [upd_ne hb]
  rw [eu] at J0
  have ps : PSs (supCx CX0 P w K mg base ["self", vn] ql sc f cda cc A out st h W) [.Assign [.Attribute (.Name "self" q1) fld q2] (.Name vn q3) q4] _ := pss_one (ps_ost (pv 0 rfl (.inl kself)) (pv 1 rfl (.inl kvn) S.nv.2.1 S.nv.2.2))
  refine wpAt_of_wpAny (wpAny_mono (ps.run [] _ [some (.ref a), some v] h { nx := fun _ h' => Z .non h', rt := Z } J0 ?_) (fun flow s2 res => ?_) fun _ _ z => z)
  · refine ⟨v, rfl, .ref a, rfl, a, C, rfl, T, S.nof, .inl ⟨ha, fun dx ndx nda => ?_⟩⟩
    exact q dx ndx nda
  · cases flow with
    | ret u => exact let ⟨v, _, h2, J, rel, z⟩ := res; ⟨v, h2, J.os, J.bare, J.base, J.hok, rel, z⟩
    | next => exact let ⟨_, h2, J, z⟩ := res; ⟨.non, h2, J.os, J.bare, J.base, J.hok, rfl, z⟩
    | brk => exact (let ⟨_, _, _, z⟩ := res; z : False).elim
    | cont => exact (let ⟨_, _, _, z⟩ := res; z : False).elim
/-! ### an exception kept behind its suite -/
/-- at a: an exception of the class cls, its dict at d -/
def exh (a : Addr) (cls : Value) (d : Option Addr) : HO := .ext fun h => ∃ (o : Obj) (vs : Array Value), h.get? a = some o ∧ Zc cls d o ∧ o.data = .fields vs
theorem exh_at {P : Program} {w : World} {H : Hp} {h : Heap} {a : Addr} {cls : Value} {d : Option Addr} (ok : HOk P w H h) (e : H a = some (exh a cls d)) : ∃ (o : Obj) (vs : Array Value), h.get? a = some o ∧ Zc cls d o ∧ o.data = .fields vs := by
  have z := ok a _ e
  exact z.1
theorem exh_ok {P : Program} {w : World} {H : Hp} {h : Heap} {a : Addr} {cls : Value} {d : Option Addr} {o : Obj} {vs : Array Value} (e : h.get? a = some o) (z : Zc cls d o) (hd : o.data = .fields vs) : ObjOk P w H h a (exh a cls d) :=
  ⟨⟨o, vs, e, z, hd⟩, ⟨o, e⟩, fun h1 h2 ⟨o1, vs1, e1, z1, d1⟩ k => ⟨o1, vs1, k _ e1, z1, d1⟩⟩
/-- an object that was not there at the def's start is followed from now on -/
theorem track {X : Cx} {pins : List (Addr × Obj)} {σ : L2.St} {H : Hp} {s : Shared} {a : Addr} {o : Obj} {vs : Array Value} {cls : Value} {d : Option Addr} (I : Inv X ((a, o) :: pins) σ H s) (z : Zc cls d o) (hd : o.data = .fields vs) (new : X.s_0.heap.get? a = none)
    (nop : ∀ p ∈ X.pn ++ pins, p.1 ≠ a) : Inv X pins σ (upd H a (exh a cls d)) s := by
  obtain ⟨ea, na, nl, nf, _⟩ := I.pin (a, o) (List.mem_append_right _ List.mem_cons_self)
  refine ⟨I.ok, I.os, I.bare, ⟨I.base.keep, I.base.slot, fun b ob e n x => ?_, I.base.there, fun b xs e => ?_, fun b ob u e => ?_, fun b ps e => ?_⟩, I.loc, I.cell, ?_, fun y c e => ?_, fun p hp => ?_, fun b u e => ?_, I.len⟩
  · rw [upd_ne (fun z => by rw [z, new] at e; cases e)]
    exact I.base.free b ob e n x
  · have z := I.base.tups b xs e
    rw [upd_ne (ne_of_none z na)]
    exact z
  · have z := I.base.frzs b ob u e
    rw [upd_ne (ne_of_none z na)]
    exact z
  · obtain ⟨m, z⟩ := I.base.tbls b ps e
    exact ⟨m, by rw [upd_ne (ne_of_none z na)]; exact z⟩
  · rw [upd_ne (Ne.symm nl)]
    exact I.free
  · obtain ⟨v, oc, ec, dc⟩ := I.cell y c e
    rw [upd_ne (fun z => by rw [z, ea] at ec; cases ec; rw [hd] at dc; cases dc)]
    exact I.freeC y c e
  · have hp' : p ∈ X.pn ++ ((a, o) :: pins) := by
      rcases List.mem_append.mp hp with z | z
      · exact List.mem_append_left _ z
      · exact List.mem_append_right _ (List.mem_cons_of_mem _ z)
    obtain ⟨g1, g2, g3, g4, g5⟩ := I.pin p hp'
    exact ⟨g1, by rw [upd_ne (nop p hp)]; exact g2, g3, g4, g5⟩
  · by_cases hb : b = a
    · subst hb
      rw [upd_same] at e
      cases e
      exact exh_ok ea z hd
    · rw [upd_ne hb] at e
      exact (I.hok b u e).stay (fun c v _ k => k) (fun c k => by rw [upd_ne (ne_of_none k na)]; exact k) fun c xs k => by rw [upd_ne (ne_of_none k na)]; exact k
/-- what 'except x as n: ..' wishes, n's object followed behind the suite -/
def wKeep (K : PySem.W.Frag) (c : Value) (i : Nat) (ts : Addr → Value → Option Addr → TS) (Wout : WX) (D : Ends) : WX := fun cls d σ H =>
  ∃ yes, PySem.W.exmOne K cls c = some yes ∧ (yes = true → ∀ a, H a = none → ts a cls d { nx := fun σ' H' => D.nx (σ'.set i none) (upd H' a (exh a cls d)), rt := D.rt, bk := fun _ _ => False, ct := fun _ _ => False } (σ.set i (some (.ref a))) H) ∧ (yes = false → Wout cls d σ H)
section
variable {X : Cx} {x n : Str} {c : Value} {i : Nat} {body suite : List Stmt} {b₀ : Stmt} {np pos pos' : Pos} {tb : WX → TS} {ts : Addr → Value → Option Addr → TS} {Wout : WX}
theorem ps_try_keep (hst : X.stack = X.env :: X.outer) (hfm : X.env.frame = some X.env.locals) (nd : X.N.Nodup) (hix : X.N[i]? = some n) (loc : X.env.kindOf n = some .local) (nam : Names X x c) (tks : Takes X Wout) (hex : X.ex = [])
    (bodyOk : ∀ (W : WX) (pn : List (Addr × Obj)) (xe : Value → Shared → Prop), Takes (X.tr pn xe) W → PassesOwn (model X.prog X.w) X.A X.env xe → PSs (X.tr pn xe) body (tb W))
    (suiteOk : ∀ (a : Addr) (oe : Obj) (cls : Value) (d : Option Addr) (pn : List (Addr × Obj)), Zc cls d oe → (∃ vs, oe.data = .fields vs) → PSs (X.suite a ((a, oe) :: pn)) (b₀ :: suite) (ts a cls d)) :
    PS X (.Try body [.ExceptHandler (some (.Name x np)) (some n) (b₀ :: suite) pos'] [] [] pos) (fun D σ H => tb (wKeep X.K c i ts Wout D) D σ H) := by
  refine ⟨fun pins st σ h D inv rdg => ?_⟩
  have okX := inv.ok
  have fr := okX.frames; rw [hst] at fr
  refine (wpAny_Try_except ?_)
  refine wpAny_mono ((bodyOk (wKeep X.K c i ts Wout D) (X.pn ++ pins) (fun e t1 => wpAny (model X.prog X.w) X.A (noteFrame e X.env) (fun _ t2 => wpAny (model X.prog X.w) X.A (setFlight e none) (fun _ t3 =>
    wpAny (model X.prog X.w) X.A (handleBy e X.env [.ExceptHandler (some (.Name x np)) (some n) (b₀ :: suite) pos']) (SP X pins D) X.xe t3) X.xe t2) X.xe t1) (fun u st' xx => ?_) PassesOwn.looking).run [] st σ h D (inv.toTry _) rdg) (fun flow t1 res => ?_) (fun _ _ z => z)
  · obtain ⟨a, G, tI, pins', σ1, h1, cls, d, rfl, K1, ground, up, sky, na, eos, ags, yes, q1, qy, qn⟩ := xx
    have I1 : Inv X pins σ1 h1 tI := K1.ofTry okX
    have sky1 : Sky G (X.env :: X.outer) a (Zc cls d) X.env.locals st'.heap := hst ▸ sky
    show wpAny (model X.prog X.w) X.A (noteFrame (.ref a) X.env) _ _ _
    refine Sky.land Zc.steady fr hfm sky1 fun hp3 fly3 up3 => ?_
    have I3 : Inv X pins σ1 h1 { st' with heap := hp3 } := I1.landed ground fly3.1 (up.trans up3) eos ags
    obtain ⟨o3, vs3, g3, z3, d3⟩ := fly3.there
    have nfr : a ∉ frs (X.env :: X.outer) := fun m => by
      obtain ⟨_, o', e', no⟩ := fly3.2.2.1.mem m
      rw [g3] at e'
      cases e'
      exact no _ d3
    have nl : a ≠ X.env.locals := fun z => nfr (List.mem_filterMap.mpr ⟨X.env, List.mem_cons_self, by rw [hfm, z]⟩)
    have nf : a ∉ X.fs := fun m => by
      obtain ⟨e, he, e2⟩ := List.mem_filterMap.mp m
      exact nfr (List.mem_filterMap.mpr ⟨e, List.mem_cons_of_mem _ he, e2⟩)
    have freshI : tI.heap.get? a = none := by
      cases e : tI.heap.get? a with
      | none => rfl
      | some o =>
        have := ground a o e (by rw [hst]; exact nfr)
        rw [fly3.2.1] at this
        cases this
    have fresh0 : X.s_0.heap.get? a = none := by
      cases e : X.s_0.heap.get? a with
      | none => rfl
      | some o =>
        obtain ⟨o', e'⟩ := I1.base.there a o e (by rw [hex]; exact List.not_mem_nil)
        rw [freshI] at e'
        cases e'
    have nop : ∀ p ∈ X.pn ++ pins, p.1 ≠ a := fun p hp z => by
      have := (I1.pin p hp).1
      rw [z, freshI] at this
      cases this
    have S3 := I3.suite g3 d3 na nl nf
    refine wpAny_handleBy_cons (codeAny_handlers_test ?_) (by intro z; cases z)
    have ty3 : PySem.W.Looks (model X.prog X.w) hp3 (typeOf (.ref a)) cls := fun A Q E s k z => wpAny_typeOf_ref (k _ _ g3) (by rw [z3.1]; exact z)
    have mt3 := PySem.W.exm_one (M := model X.prog X.w) (I3.kIn) ty3 q1
    have named : ∀ {Q : Value → Shared → Prop} {E : Value → Shared → Prop}, Q c { st' with heap := hp3 } → wpAny (model X.prog X.w) (X.A.mark (some (.ref a))) (eval (.Name x np) X.env) Q E { st' with heap := hp3 } := fun {Q E} z => by
      obtain ⟨n1, n2, n3 | ⟨n3, n4, n5⟩⟩ := nam
      · exact ld_glob (X := X.suite a ((a, o3) :: (X.pn ++ pins))) S3 n1 n3 z n2
      · exact ld_blt (X := X.suite a ((a, o3) :: (X.pn ++ pins))) S3 n1 n3 n4 z n5 n2
    refine named (mt3.here ?_)
    cases yes with
    | true =>
      refine (codeAny_handlers_suite_as ?_)
      refine HandSPX.lands_againZ fly3 fun hp4 fly4 up4 => ?_
      have I4 : Inv X pins σ1 h1 { st' with heap := hp4 } := I1.landed ground fly4.1 ((up.trans up3).trans up4) eos ags
      obtain ⟨o4, vs4, g4, z4, d4⟩ := fly4.there
      have S4 := I4.suite g4 d4 na nl nf
      refine store_ok (X := X.suite a ((a, o4) :: (X.pn ++ pins))) (v := .ref a) S4 nd hix (.inl loc) rfl (fun t5 S5 => ?_) (.inr loc)
      refine wpAny_mono ((suiteOk a o4 cls d (X.pn ++ pins) z4 ⟨_, d4⟩).run [] t5 _ h1 _ S5 (qy rfl a na)) (fun flow t6 res => ?_) (fun _ _ z => z.elim)
      have back : ∀ {σ6 : L2.St} {h6 : Hp}, Inv (X.suite a ((a, o4) :: (X.pn ++ pins))) [] σ6 h6 t6 → Inv X ((a, o4) :: pins) σ6 h6 t6 := fun {σ6 h6} S6 =>
        (S6.unsuite okX : Inv X pins σ6 h6 t6).pins_of fun p hp => by
          rcases List.mem_cons.mp hp with z | z
          · rw [z]; exact S6.pin (a, o4) (List.mem_append_left _ List.mem_cons_self)
          · exact S6.pin p (List.mem_append_left _ (List.mem_cons_of_mem _ (List.mem_append_right _ z)))
      cases flow with
      | next =>
        obtain ⟨σ6, h6, S6, q6⟩ := res
        exact gone_ok (back S6) nd hix loc fun t7 J7 => ⟨_, _, track J7 z4 d4 fresh0 nop, q6⟩
      | brk => exact (let ⟨_, _, _, z⟩ := res; z : False).elim
      | cont => exact (let ⟨_, _, _, z⟩ := res; z : False).elim
      | ret u =>
        obtain ⟨v6, σ6, h6, S6, r6, q6⟩ := res
        exact gone_ok (S6.unsuite okX) nd hix loc fun t7 J7 => ⟨_, _, _, J7, r6, q6⟩
    | false =>
      show wpAny _ X.A (handleBy (.ref a) X.env []) _ _ _
      refine (wpAny_handleBy_nil ?_)
      obtain ⟨j1, j2, j3, oe, vs, T, oT, ts', he, hz, hd, hv1, hr⟩ := id fly3
      unfold PySem.passOn
      refine (wpAny_bind (wpAny_field he hd hv1 ?_)); rw [if_neg (show ¬ ((Value.ref T == Value.none) = true) from by simp)]
      have last : wpAny (model X.prog X.w) X.A (setFlight (.ref a) X.env.frame) (fun _ t4 => wpAny (model X.prog X.w) X.A (throw (.ref a) : Sem Flow) (SP X pins D) X.xe t4) X.xe { st' with heap := hp3 } := by
        rw [hfm]
        refine HandSPX.setFlight_upZ fly3 fun hp4 held4 up4 => wpAny_throw (tks _ _ ?_)
        exact ⟨a, G, tI, pins, σ1, h1, cls, d, rfl, I1, ground, (up.trans up3).trans up4, .inr (.inr (by rw [hst]; exact held4)), na, eos, ags, qn rfl⟩
      first | exact wpAny_bind (wpAny_pure (wpAny_bind last)) | exact wpAny_bind last
  · cases flow with
    | next => exact let ⟨σ2, h2, J, q⟩ := res; wpAny_execs_nil ⟨σ2, h2, J.ofTry okX, q⟩
    | brk => exact let ⟨σ2, h2, J, q⟩ := res; ⟨σ2, h2, J.ofTry okX, q⟩
    | cont => exact let ⟨σ2, h2, J, q⟩ := res; ⟨σ2, h2, J.ofTry okX, q⟩
    | ret u => exact let ⟨v, σ2, h2, J, r, q⟩ := res; ⟨v, σ2, h2, J.ofTry okX, r, q⟩
end
/-! ### what is asked of a kept exception -/
def tXh (K : PySem.W.Frag) (f : Str) (te : TE) : TE := fun σ H Q => te σ H fun x H1 => ∃ (a C dd : Addr) (fs : List (Str × V)) (v : V), x = .ref a ∧ H1 a = some (exh a (.ref C) (some dd)) ∧ H1 dd = some (.xd fs) ∧ XfC K C ∧ PySem.W.findIn K (.ref C) f = some none ∧ fs.lookup f = some v ∧ Q v H1
theorem pe_xh {X : Cx} {e : Expr} {te : TE} {pos : Pos} {n : Str} (he : PE X e te) (hb : attributeBase e n X.env (eval e X.env) = eval e X.env := by rfl) : PE X (.Attribute e n pos) (tXh X.K n te) := by
  refine ⟨fun pins st σ h Q inv rdg => attr_of hb (thn (he.run pins st σ h _ inv rdg) fun u s1 res => ?_)⟩
  obtain ⟨x, h1, I1, rx, a, C, dd, fs, v, rfl, ea, ed, T, no, look, q⟩ := res
  obtain rfl : u = Value.ref a := rx
  obtain ⟨o, vs, g, z, hd⟩ := exh_at I1.hok ea
  obtain ⟨mA, ns, rel⟩ := (I1.hok dd _ ed : ObjOk X.prog X.w h1 s1.heap dd (.xd fs))
  obtain ⟨od, ho, hl⟩ := lookIn_ns ns
  obtain ⟨u, hu, ru⟩ := RelO.some_of (v := v) (o := mA n) (look ▸ rel n)
  have J : PySem.W.InstAt s1.heap a o C (some od) := ⟨g, z.1, by unfold PySem.W.notCls; rw [hd] <;> rfl, z.2.symm ▸ ho⟩
  exact HandSPX.exc_get I1.kIn J T.ga T.gg T.exC (PySem.W.findObj_own T.hdC no rfl (by rw [hl, hu])) (handed_of ru) ⟨v, h1, I1.tok _, ru, q⟩
/-- isinstance(y, c), y a kept exception with a dict -/
def rIsH (K : PySem.W.Frag) : List V → Hp → VK → Prop := fun xs H Q => ∃ (a C dd : Addr) (fs : List (Str × V)) (c : V) (u : Value) (b : Bool), xs = [.ref a, c] ∧ H a = some (exh a (.ref C) (some dd)) ∧ H dd = some (.xd fs) ∧ ExcC K C ∧ ClsV c u ∧ PySem.W.kitOne K (.ref C) u = some b ∧ Q (.bl b) H
theorem call_isH {X : Cx} : CallR X (.builtin "isinstance") (rIsH X.K) := by
  intro pins st σ h xs us Q inv rel pre
  obtain ⟨a, C, dd, fs, c, u, b, rfl, ea, ed, T, k, e, q⟩ := pre
  obtain ⟨w1, w2, rfl, r1, r2⟩ := vals2 rel
  obtain rfl : w1 = Value.ref a := r1
  obtain rfl := k.eq r2
  obtain ⟨o, vs, g, z, hd⟩ := exh_at inv.hok ea
  obtain ⟨mA, ns, rl⟩ := (inv.hok dd _ ed : ObjOk X.prog X.w h st.heap dd (.xd fs))
  obtain ⟨od, ho, hl⟩ := lookIn_ns ns
  have J : PySem.W.InstAt st.heap a o C (some od) := ⟨g, z.1, by unfold PySem.W.notCls; rw [hd] <;> rfl, z.2.symm ▸ ho⟩
  have hcl : (PySem.W.clsIn X.K C).isSome = true := by
    have z := T.hd
    unfold PySem.W.hasDictIn at z
    cases e : PySem.W.clsIn X.K C with
    | none => rw [e] at z; cases z
    | some _ => rfl
  exact PySem.W.kia_one (PySem.W.kitx_exc hcl T.hg T.hk T.hs T.ha T.hn T.ht T.hm) inv.kIn J e (fun z => nomatch z) fun tk => ⟨.bl b, h, inv.tok tk, rfl, q⟩
/-! ### raise C(e) -/
structure ErrMk (P : Program) (w : World) (K : PySem.W.Frag) (mg : Str → Option Value) (base : Heap) (C : Addr) (x fld : Str) : Prop where
  ex : ∃ (fI : Addr) (fd : FuncData) (vn : Str), OexC K C ∧ PySem.W.findIn K (.ref C) "__init__" = some (some (.ref fI)) ∧ PySem.W.typeIn K (.ref fI) = some (.type "function") ∧ FnOk P w K mg base CX0 1 fI fd ["self", vn] (spXI C fld) ∧ Binds K fd ["self", vn] [] ∧ mg x = some (.ref C)
theorem pmkC {X : Cx} {C : Addr} {x fld : Str} {e : Expr} {es : List Expr} {p pos : Pos} {ta : TA} (c : ErrMk X.prog X.w X.K X.mg X.base C x fld) (room : Room 2 X.A) (gl : Gl X x) (ha : PA X (e :: es) ta)
    (d1 : (x == ("__debug__" : Str)) = false := by decide) (d2 : starEach (e :: es) X.env = (false, eval e X.env) :: starEach es X.env := by rfl) (d3 : (backTo pos (starEach es X.env)).any (·.1) = false := by rfl) :
    PMk X (.Call (.Name x p) (e :: es) [] pos) (tMkO C (spXI C fld) [] ta) := by
  obtain ⟨fI, fd, vn, T, i1, i2, F, b, hm⟩ := c.ex
  exact pmk_oex T i1 i2 F room b .nil pass0 gl hm ha d1 d2 d3
theorem r_raiseO {σ : L2.St} {H : Hp} {te : TE} {C : Addr} {fld : Str} {W : XK} (q : te σ H fun v H1 => ∀ (d : Addr) (H' : Hp), Same H1 H' → H' d = some (.xd [(fld, v)]) → W (.ref C) (some d) H') (mono : ∀ (Q1 Q2 : VK), (∀ v H1, Q1 v H1 → Q2 v H1) → te σ H Q1 → te σ H Q2) :
    tMkO C (spXI C fld) [] (tCons te tNil) σ H W := by
  refine mono _ _ (fun v H1 g => ?_) q
  refine ⟨(show 1 ≤ 1000 by decide), fun a na => ⟨a, v, rfl, upd_same, fun dx ndx nda => ?_⟩⟩
  have n1 : H1 dx = none := by
    rw [upd_ne nda] at ndx
    exact ndx
  refine ⟨rfl, dx, [(fld, v)], upd_same, by rw [upd_ne nda]; exact upd_same, n1, g dx _ (fun b o e => ?_) upd_same⟩
  have b1 := ne_of_none e n1
  have b2 := ne_of_none e na
  rw [upd_ne b1, del_ne b2, upd_ne b2, upd_ne b1, upd_ne b2]
  exact e
theorem mono_var {i : Nat} {σ : L2.St} {H : Hp} (Q1 Q2 : VK) (h : ∀ v H1, Q1 v H1 → Q2 v H1) : tVar i σ H Q1 → tVar i σ H Q2 := fun ⟨v, e, q⟩ => ⟨v, e, h _ _ q⟩
end KX

/-! KY: values of many kinds: none, truths, numbers, texts, tuples, lists and dicts of such; repr of a pair, in, isinstance. -/
namespace KY
open PySem PySem.Spec PyProof.Rows L2 KB KG
inductive Sc where
  | non | bl (b : Bool) | int (i : Int) | str (x : Str)
  deriving DecidableEq
def Sc.v : Sc → V
  | .non => .non
  | .bl b => .bl b
  | .int i => .int i
  | .str x => .str x
def Sc.d : Sc → PyData
  | .non => .none
  | .bl b => .bool b
  | .int i => .int i
  | .str x => .str x
inductive Dt where
  | sc (s : Sc) | tup (l : List Sc) | lst (l : List Sc) | dct (l : List (Key × Sc))
def keyD : Key → PyData
  | .inl i => .int i
  | .inr x => .str x
def Dt.d : Dt → PyData
  | .sc s => s.d
  | .tup l => .tuple (l.map Sc.d)
  | .lst l => .list (l.map Sc.d)
  | .dct l => .dict (l.map fun p => (keyD p.1, p.2.d))
def OdAt (H : Hp) (v : V) : Dt → Prop
  | .sc s => v = s.v
  | .tup l => ∃ a, v = .ref a ∧ H a = some (.tup (l.map Sc.v))
  | .lst l => ∃ a, v = .ref a ∧ H a = some (.lst (l.map Sc.v))
  | .dct l => ∃ a, v = .ref a ∧ H a = some (.dK (l.map fun p => (p.1, p.2.v)))
theorem OdAt.to {H H' : Hp} {v : V} {t : Dt} (h : OdAt H v t) (k : ∀ a o, v = .ref a → H a = some o → H' a = some o) : OdAt H' v t := by
  cases t with
  | sc s => exact h
  | tup l => obtain ⟨a, e, g⟩ := h; exact ⟨a, e, k a _ e g⟩
  | lst l => obtain ⟨a, e, g⟩ := h; exact ⟨a, e, k a _ e g⟩
  | dct l => obtain ⟨a, e, g⟩ := h; exact ⟨a, e, k a _ e g⟩
theorem OdAt.same {H H' : Hp} {v : V} {t : Dt} (h : OdAt H v t) (s : Same H H') : OdAt H' v t := h.to fun a o _ e => s a o e
/-- it is no object of a class -/
theorem OdAt.notIns {H : Hp} {t : Dt} {a C dx : Addr} {fs : List (Str × V)} (h : OdAt H (.ref a) t) : H a ≠ some (.ins C dx fs) := by
  intro z
  cases t with
  | sc s => cases s <;> cases (show V.ref a = _ from h)
  | tup l => obtain ⟨b, e, g⟩ := h; cases e; rw [z] at g; cases g
  | lst l => obtain ⟨b, e, g⟩ := h; cases e; rw [z] at g; cases g
  | dct l => obtain ⟨b, e, g⟩ := h; cases e; rw [z] at g; cases g
section
variable {X : Cx} {pins : List (Addr × Obj)} {σ : L2.St} {H : Hp} {st : Shared}
theorem sc_reads {h : Heap} {u : Value} : ∀ s : Sc, RelV s.v u → Reads h u s.d []
  | .non, r => by cases (show u = Value.none from r); exact .none
  | .bl b, r => by cases (show u = Value.bool b from r); exact .bool b
  | .int i, r => by obtain ⟨t, rfl⟩ := (show ∃ t, u = Value.int i t from r); exact .int i t
  | .str x, r => by obtain ⟨t, rfl⟩ := (show ∃ t, u = Value.str x t from r); exact .str x t
theorem scs_reads {h : Heap} : ∀ (l : List Sc) (us : List Value), Vals (l.map Sc.v) us → ReadsAll h us (l.map Sc.d) []
  | [], us, r => by cases r; exact .nil
  | s :: l, us, r => by
    cases r with
    | cons r1 r2 => exact .cons (sc_reads s r1) (scs_reads l _ r2)
theorem dict_reads {P : Program} {w : World} {h : Heap} : ∀ (l : List (Key × Sc)) (vs : List (Key × Value)) (es : List DictEntry), KV (l.map fun p => (p.1, p.2.v)) vs → Pairs (mixKind P w) es vs →
    ReadsAll h (es.map (·.key)) ((l.map fun p => (keyD p.1, p.2.d)).map (·.1)) [] ∧ ReadsAll h (es.map (·.val)) ((l.map fun p => (keyD p.1, p.2.d)).map (·.2)) []
  | [], vs, es, k, p => by
    cases k
    cases p
    exact ⟨.nil, .nil⟩
  | (ky, s) :: l, vs, es, k, p => by
    cases k with
    | cons k1 k2 =>
      cases p with
      | cons p1 p2 p3 =>
        rename_i e es
        obtain ⟨g1, g2⟩ := dict_reads l _ _ k2 p3
        have r2 := k1.2
        rw [← p2] at r2
        refine ⟨?_, .cons (sc_reads s r2) g2⟩
        have e1 := k1.1
        have hk : keyIs ky e.key = true := by
          have z := p1
          rw [← e1] at z
          exact z
        have hr : Reads h e.key (keyD ky) [] := by
          rcases keyIs_shape hk with ⟨i, t, rfl, q⟩ | ⟨x, t, rfl, q⟩
          · rw [q]
            exact .int i t
          · rw [q]
            exact .str x t
        exact .cons hr g1
theorem noD_sc : ∀ s : Sc, s.d.hasDict = false
  | .non => rfl
  | .bl _ => rfl
  | .int _ => rfl
  | .str _ => rfl
theorem noD_scs : ∀ l : List Sc, PyData.hasDictAll (l.map Sc.d) = false
  | [] => by simp only [List.map_nil, PyData.hasDictAll]
  | s :: l => by simp only [List.map_cons, PyData.hasDictAll, noD_sc s, noD_scs l, Bool.or_false]
theorem od_reads {v : V} {u : Value} {t : Dt} (inv : Inv X pins σ H st) (o : OdAt H v t) (r : RelV v u) : ∃ as, Reads st.heap u t.d as ∧ (t.d.hasDict = true → sysModules ∉ as) := by
  cases t with
  | sc s =>
    obtain rfl : v = s.v := o
    exact ⟨_, sc_reads s r, fun _ => List.not_mem_nil⟩
  | tup l =>
    obtain ⟨a, rfl, e⟩ := o
    obtain rfl : u = Value.ref a := r
    obtain ⟨its, rv, ⟨ob, ho, hc, n, hd⟩, _⟩ := inv.tuple (SqT.of e)
    exact ⟨_, .tuple ho hc hd (scs_reads l _ rv), fun _ => List.not_mem_nil⟩
  | lst l =>
    obtain ⟨a, rfl, e⟩ := o
    obtain rfl : u = Value.ref a := r
    obtain ⟨its, rv, ⟨ob, n, ho, hc, _, hd⟩, _⟩ := inv.list (SqL.of e)
    refine ⟨_, .list ho hc hd (scs_reads l _ rv), fun z => ?_⟩
    simp only [Dt.d, PyData.hasDict, noD_scs l] at z
    cases z
  | dct l =>
    obtain ⟨a, rfl, e⟩ := o
    obtain rfl : u = Value.ref a := r
    obtain ⟨_, ns, vs, kv, ob, es, ep, ho, hex, hd, _, prs, _⟩ := dk_of inv.hok e
    obtain ⟨g1, g2⟩ := dict_reads (h := st.heap) l _ _ kv prs
    refine ⟨_, .dict ho hex.1 hd g1 g2, fun _ m => ?_⟩
    have m' : sysModules ∈ [a] := m
    rw [List.mem_singleton] at m'
    rw [← m'] at ns
    simp at ns
end
/-! ### repr of [tag, v] -/
section
variable {P : Program} {w : World} {A : Around} {E : Value → Shared → Prop} {s : Shared} {Z : Value → Shared → Prop}
theorem repr_items {a : Addr} {xs : List PyData} {o : Obj} {vs : Array Value} {n : Nat} {as1 : List Addr} (h1 : s.heap.get? a = some o) (h2 : o.cls = .type "list") (h3 : o.data = .seq vs n) (h4 : ReadsAll s.heap vs.toList xs as1) (ne : vs.toList ≠ []) (ok : PyData.showableAll xs = true) (nosys : PyData.hasDictAll xs = true → sysModules ∉ as1)
    (sz : (PyData.list xs).shown.length ≤ sizeLine) (fr : Free A) (hu : A.units + (PyData.list xs).depth + 3 < cLine)
    (q : ∀ h' u tk, (∀ b o, s.heap.get? b = some o → h'.get? b = some o) → Z (.str (PyData.list xs).shown u) { s with heap := h', toks := tk }) : wpAny (model P w) A (call (.builtin "repr") [.ref a]) Z E s := by
  have sz' : (listText (PyData.shownAll xs)).length ≤ sizeLine := by simpa only [PyData.shown] using sz
  have whole : Reads s.heap (.ref a) (.list xs) _ := .list h1 h2 h3 h4
  obtain ⟨bs, lim, kids⟩ := ReprAllK.of_readsAll (prog := P) (w := w) h4 ok nosys (fun t ht => Nat.le_trans (listText_mem_le ht) sz')
  have off : a ∉ bs := not_mem_of_deeper whole (by simp only [PyData.depth]; omega) lim
  simp only [PyData.depth] at hu
  simp only [PyData.shown] at q
  have ty : s.TypeIs (.ref a) "list" := ⟨_, h1, h2⟩
  refine repr_slot (by omega) ty F.slot_list_repr.toG ?_
  obtain ⟨l⟩ := vs
  cases l with
  | nil => exact absurd rfl ne
  | cons x l =>
    refine (wpAny_callSpecialIfBound?_slot (name := Str.ofString "__repr__") ty F.slot_list_repr (call_list_reprK h1 h2 h3 off (by simpa using kids.length_eq) (fun i y e => kids.item i y (by simpa using e)) fr (fun b _ => Clear.nil b) (show A.units + 1 + _ < cLine by omega) (fun _ _ e => e) (fun h' u tk kp => ?_) sz'))
    exact ⟨_, _, rfl, q h' u tk kp⟩
end
/-- the pair [tag, v] as data -/
def pairD (tag : Str) (t : Dt) : PyData := .list [.str tag, t.d]
structure Fit (tag : Str) (t : Dt) : Prop where
  ok : PyData.showable t.d = true
  deep : (pairD tag t).depth ≤ 60
  sz : (pairD tag t).shown.length ≤ sizeLine
section
variable {X : Cx}
def rReprT : List V → Hp → VK → Prop := fun xs H Q => ∃ (p : Addr) (tag : Str) (v : V) (t : Dt), xs = [.ref p] ∧ H p = some (.lst [.str tag, v]) ∧ OdAt H v t ∧ Fit tag t ∧ Q (.str (pairD tag t).shown) H
theorem call_reprT {k : Nat} (fr : Free X.A) (room : Room k X.A) : CallR X (.builtin "repr") rReprT := by
  intro pins st σ h xs us Z inv rel pre
  obtain ⟨p, tag, v, t, rfl, hp, od, fit, z⟩ := pre
  obtain ⟨u, rfl, rv⟩ := vals_one rel
  obtain rfl : u = Value.ref p := rv
  obtain ⟨its, rl, ⟨ob, n, ho, hc, _, hd⟩, _⟩ := inv.list (SqL.of hp)
  cases rl with
  | cons r1 rl =>
    cases rl with
    | cons r2 rl =>
      cases rl
      obtain ⟨tk, rfl⟩ := (show ∃ tk, _ = Value.str tag tk from r1)
      obtain ⟨as, rd, ns⟩ := od_reads inv od r2
      refine repr_items (xs := [.str tag, t.d]) ho hc hd (.cons (.str tag tk) (.cons rd .nil)) (by simp) ?_ (fun y m => ?_) fit.sz fr (by have := room.un; have := fit.deep; unfold pairD at this; omega) fun h' t1 tk' kp => ?_
      · simp only [PyData.showableAll, PyData.showable, fit.ok, Bool.and_true, Bool.true_and]
      · simp only [PyData.hasDictAll, PyData.hasDict, Bool.or_false, Bool.false_or] at y
        exact ns y (by simpa using m)
      · exact ⟨.str (pairD tag t).shown, h, inv.kept kp, ⟨t1, rfl⟩, z⟩
end
/-! ### a text beside a dict -/
section
open PySem.SeqAt PySem.MeetsSeq PySem.AutoSeq1
theorem str_eq_no_dict (b : Str) (u : Tok) (l : Addr) (c : Value) (es : Array DictEntry) (n : Nat) (dd : Option Addr) (sl : Array (Option Value)) :
    Meets (Builtin.«str.__eq__» ⟨[.str b u, .ref l], []⟩) (fun _ R s => s.heap.get? l = some { cls := c, dict := dd, data := .dict es n, slots := sl } ∧ R (.ok (.ret .notImplemented)) s) :=
  .of_wp fun prog w A R s h => by obtain ⟨hp, g, d, tk, os⟩ := s; obtain ⟨hl, h⟩ := h; wp_walk using wpAny_loadPart' hl, wpAny_load hl; exact ⟨_, rfl, h⟩
theorem dict_eq_no_str (l : Addr) (es : Array DictEntry) (n : Nat) (dd : Option Addr) (sl : Array (Option Value)) (b : Str) (u : Tok) :
    Meets (Builtin.«dict.__eq__» ⟨[.ref l, .str b u], []⟩) (fun _ R s => s.heap.get? l = some { cls := .type "dict", dict := dd, data := .dict es n, slots := sl } ∧ R (.ok (.ret .notImplemented)) s) :=
  .of_wp fun prog w A R s h => by obtain ⟨hp, g, d, tk, os⟩ := s; obtain ⟨hl, h⟩ := h; have f1 := F.sub_str_dict; wp_walk using wpAny_loadPart' hl; exact ⟨_, rfl, h⟩
variable {A : Around} {s : Shared}
theorem eqAt_str_dict {l : Addr} {es : Array DictEntry} {n : Nat} {ob : Obj} (b : Str) (u : Tok) (ho : s.heap.get? l = some ob) (hc : ob.cls = .type "dict") (hd : ob.data = .dict es n) (hu : A.units < cLine) : EqAt A s (.str b u) (.ref l) false := fun prog w E Q h => by
  obtain ⟨cls, dd, data, sl⟩ := ob
  simp only at hc hd
  subst hc hd
  unfold eqBool
  refine wpAny_holding ?_
  refine wpAny_ite_split (fun hab => absurd (eq_of_beq hab) nofun) (fun _ => ?_)
  refine wpAny_bind ?_
  exact rc_eq_decline_or (k := false) (typeIs_str s b u) ⟨_, ho, rfl⟩ (by decide) F.sub_dict_str F.slot_str_eq F.slot_dict_eq_refl
    (fun _ hq => call_meets F.slot_str_eq (typeIs_str s b u) F.entry_str_eq (F.args_str_eq_2 _ _) (str_eq_no_dict b u l (.type "dict") es n dd sl) ⟨ho, hq⟩)
    (fun _ hq => call_meets F.slot_dict_eq_refl ⟨_, ho, rfl⟩ F.entry_dict_eq (F.args_dict_eq_2 _ _) (dict_eq_no_str l es n dd sl b u) ⟨ho, hq⟩)
    (fun _ hq => wpAny_of_eq (rfl : isSame (.str b u) (.ref l) = pure false) hq) (.inr hu) (wpAny_truthy_bool h)
end
/-! ### v in a tuple of texts -/
def Dt.isIn (zs : List Str) : Dt → Bool
  | .sc (.str x) => decide (x ∈ zs)
  | _ => false
theorem strs_of : ∀ (zs : List Str) (us : List Value), Vals (zs.map V.str) us → ∀ u ∈ us, ∃ z tk, u = Value.str z tk
  | [], us, r => by cases r; exact fun u m => absurd m List.not_mem_nil
  | z :: zs, us, r => by
    cases r with
    | cons r1 r2 =>
      intro u m
      rcases List.mem_cons.mp m with rfl | m
      · obtain ⟨t, e⟩ := r1
        exact ⟨z, t, e⟩
      · exact strs_of zs _ r2 u m
theorem inV_no {x : V} (h : ∀ y, eqV (.str y) x = false) : ∀ zs : List Str, inV x (zs.map V.str) = false
  | [] => rfl
  | z :: zs => by
    have := inV_no h zs
    unfold inV at this ⊢
    rw [List.map_cons, List.any_cons, h z, this]
    rfl
section
variable {X : Cx}
def rNotInO (K : PySem.W.Frag) : R2 := fun x y H Q => ∃ (p : Addr) (zs : List Str) (t : Dt), y = .ref p ∧ SqT K H p (zs.map V.str) ∧ OdAt H x t ∧ Q (.bl (!t.isIn zs)) H
theorem op_notInO {k : Nat} (room : Room k X.A) : OpR X (compareOp .NotIn) (rNotInO X.K) := by
  intro pins st σ h x y v u Z inv rx ry pre
  obtain ⟨p, zs, t, rfl, sq, od, z⟩ := pre
  have un := room.un
  have flat : ∀ sc : Sc, x = sc.v → inV x (zs.map V.str) = (Dt.sc sc).isIn zs → t = .sc sc → wpAny (model X.prog X.w) X.A (compareOp .NotIn v u) (EP X pins σ Z) X.xe st := by
    intro sc e1 e2 e3
    subst e3
    refine op_notIn_seq pins st σ h x (.ref p) v u Z inv rx ry ⟨p, _, rfl, .inr sq, ?_, flat_strs zs, ?_⟩
    · rw [e1]
      cases sc <;> rfl
    · show Z (.bl (!inV x (zs.map V.str))) h
      rw [e2]
      exact z
  have far : t.isIn zs = false → (∀ b tk A', A'.units ≤ X.A.units + 1 → SeqAt.EqAt A' st (.str b tk) v false) → wpAny (model X.prog X.w) X.A (compareOp .NotIn v u) (EP X pins σ Z) X.xe st := by
    intro e1 e2
    obtain rfl : u = Value.ref p := ry
    obtain ⟨its, r, pl, hz⟩ := inv.tuple sq
    refine SeqAt.notIn_tupleAt (fun _ => false) pl (fun w hw => ?_) ⟨.bl true, h, inv, ?_, ?_⟩
    · obtain ⟨b, tk, rfl⟩ := strs_of zs its r w (by simpa using hw)
      exact e2 b tk _ (Nat.le_refl _)
    · show Value.bool _ = Value.bool true
      simp
    · rw [e1] at z
      exact z
  cases t with
  | sc s =>
    have e : x = s.v := od
    refine flat s e ?_ rfl
    rw [e]
    cases s with
    | non => exact inV_no (fun _ => rfl) zs
    | bl b => exact inV_no (fun _ => rfl) zs
    | int i => exact inV_no (fun _ => rfl) zs
    | str x => exact inV_strs zs
  | tup l =>
    obtain ⟨a, rfl, e⟩ := od
    obtain rfl : v = Value.ref a := rx
    obtain ⟨its, rv, tp, _⟩ := inv.tuple (SqT.of e)
    exact far rfl fun b tk A' hA => SeqAt.EqAt.str_tuple b tk tp (by omega)
  | lst l =>
    obtain ⟨a, rfl, e⟩ := od
    obtain rfl : v = Value.ref a := rx
    obtain ⟨its, rv, tp, _⟩ := inv.list (SqL.of e)
    exact far rfl fun b tk A' hA => SeqAt.EqAt.str_list b tk tp.isList (by omega)
  | dct l =>
    obtain ⟨a, rfl, e⟩ := od
    obtain rfl : v = Value.ref a := rx
    obtain ⟨_, ns, vs, kv, ob, es, ep, ho, hex, hd, _, prs, _⟩ := dk_of inv.hok e
    exact far rfl fun b tk A' hA => eqAt_str_dict b tk ho hex.1 hd (by omega)
end
/-! ### its type -/
def Dt.ty : Dt → String
  | .sc .non => "NoneType"
  | .sc (.bl _) => "bool"
  | .sc (.int _) => "int"
  | .sc (.str _) => "str"
  | .tup _ => "tuple"
  | .lst _ => "list"
  | .dct _ => "dict"
theorem OdAt.tyX {K : PySem.W.Frag} {H : Hp} {v : V} {t : Dt} (h : OdAt H v t) : TyX K H v (.type t.ty) := by
  cases t with
  | sc s =>
    obtain rfl : v = s.v := h
    cases s with
    | non => exact .base .non
    | bl b => exact .base (.bl b)
    | int i => exact .base (.int i)
    | str x => exact .base (.str x)
  | tup l => obtain ⟨a, rfl, e⟩ := h; exact .base (.tup e)
  | lst l => obtain ⟨a, rfl, e⟩ := h; exact .base (.lst e)
  | dct l => obtain ⟨a, rfl, e⟩ := h; exact .base (.dK e)
def Dt.isStr : Dt → Bool
  | .sc (.str _) => true
  | _ => false
theorem r_isStr {K : PySem.W.Frag} {H : Hp} {Q : VK} {v : V} {t : Dt} (h : OdAt H v t) (q : Q (.bl t.isStr) H) : rIsi K [v, .ty "str"] H Q := by
  refine ⟨v, .ty "str", _, .type "str", t.isStr, rfl, .ty _, h.tyX, ?_, q⟩
  have h1 : kitB "NoneType" "str" = some false ∧ kitB "bool" "str" = some false ∧ kitB "int" "str" = some false ∧ kitB "str" "str" = some true ∧ kitB "tuple" "str" = some false ∧ kitB "list" "str" = some false ∧ kitB "dict" "str" = some false := by decide +kernel
  cases t with
  | sc s =>
    cases s with
    | non => exact kit_ty h1.1
    | bl b => exact kit_ty h1.2.1
    | int i => exact kit_ty h1.2.2.1
    | str x => exact kit_ty h1.2.2.2.1
  | tup l => exact kit_ty h1.2.2.2.2.1
  | lst l => exact kit_ty h1.2.2.2.2.2.1
  | dct l => exact kit_ty h1.2.2.2.2.2.2
/-! ### list.count of truths -/
section
variable {X : Cx}
def rCntB (K : PySem.W.Frag) : V → List V → Hp → VK → Prop := fun x xs H Q => ∃ (p : Addr) (bs : List Bool) (b : Bool), x = .ref p ∧ xs = [.bl b] ∧ SqL K H p (bs.map V.bl) ∧ Q (.int (bs.count b : Nat)) H
theorem bls_of : ∀ (bs : List Bool) (us : List Value), Vals (bs.map V.bl) us → us = bs.map Value.bool
  | [], us, r => by cases r; rfl
  | b :: bs, us, r => by
    cases r with
    | cons r1 r2 =>
      rw [bls_of bs _ r2, show _ = Value.bool b from r1]
      rfl
theorem mt_countB : MtR X "list.count" (rCntB X.K) := by
  intro pins s σ H x xs v us Q I rx rxs h
  obtain ⟨p, bs, b, rfl, rfl, hs, q⟩ := h
  cases rx
  obtain ⟨u, rfl, ru⟩ := rxs.one
  obtain rfl : u = Value.bool b := ru
  obtain ⟨its, rv, ⟨⟨cls, dd, data, sl⟩, n, ho, hc, hdn, hd⟩, hlen⟩ := I.list hs
  simp only at hc hd
  subst hc hd
  have hi := bls_of bs its rv
  subst hi
  refine call_meets PySem.F.slot_list_count ⟨_, ho, rfl⟩ PySem.F.entry_list_count (PySem.F.args_list_count_2 _ _)
    (SeqAt.list_countAt p (bs.map Value.bool).toArray n dd sl (.bool b) (fun y => match y with | .bool c => c == b | _ => false)) ⟨ho, fun y hy => ?_, ?_⟩
  · have hy' : y ∈ bs.map Value.bool := by simpa using hy
    obtain ⟨c, _, rfl⟩ := List.mem_map.mp hy'
    exact SeqAt.EqAt.bool_bool c b
  · have ec : (bs.map Value.bool).toArray.toList.countP (fun y => match y with | .bool c => c == b | _ => false) = bs.count b := by
      show (bs.map Value.bool).countP _ = _
      rw [List.countP_map]
      rfl
    refine ⟨.int (bs.count b : Nat), H, I.tok _, ⟨s.toks, ?_⟩, q⟩
    show Value.int ((_ : Nat) : Int) s.toks = Value.int ((bs.count b : Nat) : Int) s.toks
    rw [ec]
end
end KY

/-! KL: lambdas handed to a def that asks them; the law's end with tables of code objects, no repr under way; own == beside other types. -/
namespace KL
open PySem PySem.Spec PyProof.Rows L2 KB KG LamX
/-! ### the law's end -/
section
variable {P : Program} {w : World} {K : PySem.W.Frag} {mg bm : Str → Option Value} {k : Nat} {fa a : Addr} {cs : List (Addr × Addr)} {fd : FuncData} {x : Str} {sp : Sp} {st : Shared} {us : List Value} {ns : List Int}
def TabIs (cs : List (Addr × Addr)) (b : Addr) : Prop := ∃ p ∈ cs, p.2 = b
theorem law_GT (kin : K.In st.heap) (gl : st.heap.Ns mainGlobals mg) (bl : st.heap.Ns builtinsNs bm) (bb : ∀ y : Str, y ≠ "__name__" → bm y = bootBuiltins y) (nolim : st.heap.NoLimit) (nogen : st.gens = #[])
    (empty : ∀ p ∈ cs, st.heap.get? p.2 = some (PySem.W.tabObj #[])) (off : ∀ p ∈ cs, K.lookup p.2 = none) (codes : ∀ p ∈ cs, PySem.W.CodeHd st.heap p.1 p.2)
    (bmain : ∃ (m : Addr) (ob : Obj), mg "__builtins__" = some (.ref m) ∧ m ≠ builtinsNs ∧ st.heap.get? m = some ob ∧ ob.cls = .type "module" ∧ ob.dict = some builtinsNs ∧ ob.data = .plain)
    (at_ : st.heap.get? a = some { cls := .type "list", data := .seq us.toArray }) (allInt : IntsAre us ns) (few : ns.length ≤ sizeLine) (room : Room k callerA)
    (F : ∀ base : Heap, K.In base → base.Ns mainGlobals mg → (∀ p ∈ cs, TabB base mg p.1 p.2) → FnG P w K mg base CX0 k fa fd [x] sp) (bind : ∀ (s : Shared) (u : Value), BindsTo s fd ⟨[u], []⟩ [(x, u)])
    (pre : ∀ H : Hp, (∀ p ∈ cs, H p.2 = some (.tbl #[])) → SqL K H a (ns.map V.int) → sp [.ref a] H (fun v _ => v = .bl true) fun _ _ _ => False) :
    codeAny (model P w) callerA (.call (.ref fa) ⟨[.ref a], []⟩) (fun r s2 => r = .ok (.ret (.bool true)) ∧ OldK st.heap s2.heap ∧ s2.os = st.os ∧ AllBare s2.gens) st := by
  classical
  have isT : ∀ {b : Addr}, TabIs cs b → st.heap.get? b = some (PySem.W.tabObj #[]) := fun {b} ⟨p, hp, e⟩ => e ▸ empty p hp
  have aT : ¬ TabIs cs a := fun z => by
    have y := isT z
    rw [at_] at y
    have y2 : Data.seq us.toArray _ = Data.fields #[] := congrArg Obj.data (Option.some.inj y)
    cases y2
  have main : ∀ H : Hp, (∀ b, TabIs cs b → H b = some (.tbl #[])) → (∀ b, H b = none ∨ TabIs cs b ∨ ∃ o ys, H b = some (.frz o (.lst ys))) → SqL K H a (ns.map V.int) → HOk P w H st.heap → (∀ b, H b ≠ none → b = a ∨ TabIs cs b) → (H a ≠ none → K.lookup a = none) →
      codeAny (model P w) callerA (.call (.ref fa) ⟨[.ref a], []⟩) (fun r s2 => r = .ok (.ret (.bool true)) ∧ OldK st.heap s2.heap ∧ s2.os = st.os ∧ AllBare s2.gens) st := by
    intro H tabs only sq hok isA noK
    have free_of : ∀ {b : Addr} {o : Obj}, st.heap.get? b = some o → (∀ ys m, o.data ≠ .seq ys m) → o.data ≠ .fields #[] → H b = none := by
      intro b o e nd nf
      cases q : H b with
      | none => rfl
      | some z =>
        rcases isA b (by rw [q]; simp) with eb | eb
        · rw [eb, at_] at e
          exact absurd (congrArg Obj.data (Option.some.inj e)).symm (nd _ _)
        · rw [isT eb] at e
          exact absurd (congrArg Obj.data (Option.some.inj e)).symm nf
    have kb : K.In (hidT st.heap H) := by
      intro b o e
      refine hidT_get (kin b o e) ?_
      cases q : H b with
      | none => rfl
      | some z =>
        rcases isA b (by rw [q]; simp) with eb | ⟨p, hp, eb⟩
        · rw [eb] at e q
          rw [noK (by rw [q]; simp)] at e
          cases e
        · rw [← eb, off p hp] at e
          cases e
    have ns_of : ∀ {b : Addr} {m : Str → Option Value}, st.heap.Ns b m → (hidT st.heap H).Ns b m := by
      intro b m h
      obtain ⟨o, es, ep, e, d, r⟩ := h
      exact ⟨o, es, ep, hidT_get e (free_of e (fun ys n z => by rw [d] at z; cases z) (fun z => by rw [d] at z; cases z)), d, r⟩
    have hm : Mod K mg (hidT st.heap H) := ⟨kb, ns_of gl, ⟨bm, ns_of bl, bb⟩, by obtain ⟨mc, z1, z2⟩ := nolim; exact ⟨mc, ns_of z1, z2⟩⟩
    have tb : ∀ p ∈ cs, TabB (hidT st.heap H) mg p.1 p.2 := by
      intro p hp
      have hTp := empty p hp
      refine ⟨?_, ?_, fun z => ?_⟩
      · obtain ⟨o, ws, file, tf, flags, tg, inF, text, tt, e1, r1, r2, r3, rest⟩ := codes p hp
        refine ⟨o, ws, file, tf, flags, tg, inF, text, tt, hidT_get e1 (free_of e1 (fun ys n z => by rw [r2] at z; cases z) (fun z => ?_)), r1, r2, r3, rest⟩
        rw [r2] at z
        cases z
        simp at r3
      · obtain ⟨m, ob, b1, b2, b3, b4, b5, b6⟩ := bmain
        refine ⟨m, ob, b1, b2, fun q => ?_, fun q => ?_, hidT_get b3 (free_of b3 (fun ys n z => by rw [b6] at z; cases z) (fun z => by rw [b6] at z; cases z)), b4, b5, b6⟩
        · obtain ⟨o, es, ep, e, hd, _⟩ := gl
          rw [q, e] at b3
          cases b3
          rw [hd] at b6
          cases b6
        · rw [q, hTp] at b3
          cases b3
          cases b6
      · obtain ⟨o, es, ep, e, hd, _⟩ := gl
        rw [z, hTp] at e
        cases e
        cases hd
    have env : Env0 P w K mg (hidT st.heap H) callerA [] st H := ⟨rfl, hm, fun b o e => of_hidT e, Nat.le_of_eq (hidT_size _ _), trivial, fun b z => (List.not_mem_nil z).elim, hok, .of_eq nogen⟩
    refine codeAny_mono ((F _ kb (ns_of gl) tb).go callerA rfl [] st H ⟨[.ref a], []⟩ [.ref a] [.ref a] _ _ room env (bind st (.ref a)) (.cons rfl .nil) (pre H (fun p hp => tabs _ ⟨p, hp, rfl⟩) sq)) fun res s2 z => ?_
    match res, z with
    | .error e, z => exact z.elim
    | .ok .next, z => exact z.elim
    | .ok .brk, z => exact z.elim
    | .ok .cont, z => exact z.elim
    | .ok (.ret u), z =>
      obtain ⟨v, H2, z1, z2, un, hok2, rel, rfl⟩ := z
      obtain rfl : u = Value.bool true := rel
      have stay : ∀ b o, ¬ TabIs cs b → st.heap.get? b = some o → s2.heap.get? b = some o := by
        intro b o nb e
        cases q : H b with
        | none => exact un.keep b o e q (fun y => List.not_mem_nil y) (fun y => List.not_mem_nil y)
        | some y =>
          rcases only b with y1 | y1 | ⟨o1, ys, y1⟩
          · rw [q] at y1; cases y1
          · exact absurd y1 nb
          · have y2 := (hok b _ y1).1
            have y3 := (hok2 b _ (un.frzs b o1 _ y1)).1
            rw [e] at y2
            rw [Option.some.inj y2]
            exact y3
      have grown : ∀ p ∈ cs, ∃ more : Array Value, s2.heap.get? p.2 = some { cls := .none, data := .fields more } := by
        intro p hp
        obtain ⟨more, y⟩ := un.tbls p.2 #[] (tabs _ ⟨p, hp, rfl⟩)
        exact ⟨_, hok2 p.2 _ y⟩
      refine ⟨rfl, ⟨fun b o e => ?_, fun b o e => ?_⟩, z1, z2⟩
      · by_cases hb : TabIs cs b
        · obtain ⟨p, hp, rfl⟩ := hb
          obtain ⟨more, g⟩ := grown p hp
          rw [empty p hp] at e
          cases e
          exact .inr (.inl ⟨((codes p hp).tab (empty p hp)).isCodeTable, rfl, #[], more, rfl, by rw [Array.empty_append]; exact g⟩)
        · exact .inl (stay b o hb e)
      · by_cases hb : TabIs cs b
        · obtain ⟨p, hp, rfl⟩ := hb
          obtain ⟨more, g⟩ := grown p hp
          exact ⟨_, g⟩
        · exact ⟨o, stay b o hb e⟩
  have vals := vals_ints allInt
  have lens := allInt.length
  cases look : K.lookup a with
  | some o =>
    have e := kin a o look
    rw [at_] at e
    obtain rfl := Option.some.inj e
    refine main (fun b => if TabIs cs b then some (.tbl #[]) else none) (fun b hb => if_pos hb) (fun b => ?_) (.inr ⟨_, us.toArray, _, look, rfl, rfl, rfl, by rw [List.size_toArray, lens]; exact few, by simpa using vals⟩) (fun b u z => ?_) (fun b z => ?_) (fun z => absurd (if_neg aT) z)
    · by_cases hb : TabIs cs b
      · exact .inr (.inl hb)
      · exact .inl (if_neg hb)
    · by_cases hb : TabIs cs b
      · have y := (if_pos hb).symm.trans z
        cases y
        exact isT hb
      · have y := (if_neg hb).symm.trans z
        cases y
    · by_cases hb : TabIs cs b
      · exact .inr hb
      · exact absurd (if_neg hb) z
  | none =>
    refine main (upd (fun b => if TabIs cs b then some (.tbl #[]) else none) a (.frz { cls := .type "list", data := .seq us.toArray } (.lst (ns.map V.int)))) (fun b hb => ?_) (fun b => ?_) (.inl (.inr ⟨_, upd_same⟩)) (fun b y z => ?_) (fun b z => ?_) fun _ => look
    · rw [upd_ne (show b ≠ a from fun z => aT (by rw [← z]; exact hb))]
      exact if_pos hb
    · by_cases eb : b = a
      · rw [eb, upd_same]; exact .inr (.inr ⟨_, _, rfl⟩)
      · rw [upd_ne eb]
        by_cases hb : TabIs cs b
        · exact .inr (.inl hb)
        · exact .inl (if_neg hb)
    · by_cases eb : b = a
      · subst eb
        rw [upd_same] at z
        obtain rfl := Option.some.inj z
        exact ⟨at_, by rw [List.length_map]; exact few, us, _, vals, at_⟩
      · rw [upd_ne eb] at z
        by_cases hb : TabIs cs b
        · have y := (if_pos hb).symm.trans z
          cases y
          exact isT hb
        · have y := (if_neg hb).symm.trans z
          cases y
    · by_cases eb : b = a
      · exact .inl eb
      · by_cases hb : TabIs cs b
        · exact .inr hb
        · exact absurd ((upd_ne eb).trans (if_neg hb)) z
end
/-- the goal that the head leaves, from the law's own promise; names: the defs whose tables are wanted -/
theorem walkGT {l : PySem.W.OpenLaw} {n k : Nat} {q : Program} {loose : List Str} {XP : (Str → Option Value) → Heap → Prop} {YP : World → Heap → Prop} {d : DefRec} {K : Params → PySem.W.Frag} {sp : World → List (Addr × Addr) → Sp} {x : Str} {names : List Str}
    (hn : l.most = some n) (n2 : n ≤ sizeLine) (nodef : d.params.defaults = []) (room : Room k callerA) (recs : (names.all fun y => (recsOf q).any fun e => e.name == y) = true) (hY : ∀ (w : World) (h : Heap), YP w h → (K w.params).In h)
    (F : ∀ (w : World) (mg : Str → Option Value) (fa : Addr) (h : Heap), (K w.params).In h → h.Ns mainGlobals mg → mg d.name = some (.ref fa) →
      ∃ (fd : FuncData) (cs : List (Addr × Addr)), cs.length = names.length ∧ (∀ p ∈ names.zip cs, PySem.W.tabIn (K w.params) p.1 = some p.2) ∧ (∀ p ∈ cs, (K w.params).lookup p.2 = none) ∧ (∀ (s : Shared) (u : Value), BindsTo s fd ⟨[u], []⟩ [(x, u)]) ∧
        ∀ base : Heap, (K w.params).In base → base.Ns mainGlobals mg → (∀ p ∈ cs, TabB base mg p.1 p.2) → FnG l.prog w (K w.params) mg base CX0 k fa fd [x] (sp w cs))
    (pre : ∀ (w : World) (H : Hp) (a : Addr) (cs : List (Addr × Addr)) (ns : List Int), ns.length ≤ n → (∀ p ∈ cs, H p.2 = some (.tbl #[])) → SqL (K w.params) H a (ns.map V.int) → sp w cs [.ref a] H (fun v _ => v = .bl true) fun _ _ _ => False) :
    PySem.W.WalkO q loose XP YP l.row.toRowW d [] (fun f vs => PySem.call f vs) := by
  refine Att.attach_callB hn nodef fun w s0 st mg bm fa o pm cd doc a us ns G Y ho hd hcd hmg hobj allInt size _ nogen => ?_
  have kin := hY w _ Y
  obtain ⟨fd, cs, len, tabs, off, bind, hF⟩ := F w mg fa _ kin G.T.g hmg
  have each : ∀ p ∈ cs, PySem.W.CodeHd st.heap p.1 p.2 ∧ st.heap.get? p.2 = some (PySem.W.tabObj #[]) := by
    intro p hp
    obtain ⟨i, hi, e⟩ := List.getElem_of_mem hp
    have hi2 : i < names.length := by omega
    have m : (names[i], p) ∈ names.zip cs := by
      rw [← e]
      have hz : i < (names.zip cs).length := by rw [List.length_zip]; omega
      have := List.getElem_mem hz
      rwa [List.getElem_zip] at this
    have t := tabs _ m
    have r := List.all_eq_true.mp recs names[i] (List.getElem_mem hi2)
    have s : ((recsOf q).find? fun e => e.name == names[i]).isSome = true := by
      rw [List.find?_isSome]
      obtain ⟨y, y1, y2⟩ := List.any_eq_true.mp r
      exact ⟨y, y1, y2⟩
    obtain ⟨dL, hL⟩ := Option.isSome_iff_exists.mp s
    exact PySem.W.tab_of G.T kin hL t
  exact law_GT kin G.T.g G.T.b G.T.builtins G.T.nolimit nogen (fun p hp => (each p hp).2) off (fun p hp => (each p hp).1) G.T.bmain hobj allInt (Nat.le_trans size n2) room hF bind fun H hH sq => pre w H a cs ns size hH sq
/-! ### tables kept -/
theorem tabs_to {T : List (Addr × Str)} {H H' : Hp} (t : Tabs T H) (k : ∀ b o, H b = some o → (∀ xs, o ≠ .lst xs) → H' b = some o) : Tabs T H' := by
  intro p hp
  obtain ⟨ps, h1, h2, h3⟩ := t p hp
  refine ⟨ps, k _ _ h1 (fun xs z => by cases z), h2, fun pos cv hc => ?_⟩
  obtain ⟨c, e1, e2⟩ := h3 pos cv hc
  exact ⟨c, e1, k _ _ e2 (fun xs z => by unfold CodeO at z; cases z)⟩
theorem tabs_same {T : List (Addr × Str)} {H H' : Hp} (t : Tabs T H) (s : Same H H') : Tabs T H' := tabs_to t fun b o e _ => s b o e
/-- an exception taken knows how many names there are -/
theorem takes_len {X : Cx} {W : WX} (tk : Takes X W) : Takes X (fun cls d σ H => σ.length = X.N.length → W cls d σ H) := fun u s' ⟨a, B, sI, pins, σ, H, cls, d, e, I, nb, up, sky, na, os, ag, w⟩ =>
  tk u s' ⟨a, B, sI, pins, σ, H, cls, d, e, I, nb, up, sky, na, os, ag, w I.len⟩
/-- what the lambda's body lets out -/
theorem lam_takes {X : Cx} {A : Around} {outer : List Env} {s : Shared} {H : Hp} {E : XK} {scope : Scope} {f c' : Addr} : Takes (lamCx X A outer s H E scope f c') (fun cls d _ H' => E cls d H') := takes_of rfl rfl rfl rfl
theorem lam_pass {X : Cx} {A : Around} {outer : List Env} {s : Shared} {H : Hp} {E : XK} {scope : Scope} {f c' : Addr} : Passes (L2.CX X.prog X.w) (lamCx X A outer s H E scope f c') E := passes_call lam_takes fun _ _ _ _ h => h
/-- what a def that may raise lets out -/
theorem def_takes {P : Program} {w : World} {K : PySem.W.Frag} {mg : Str → Option Value} {base : Heap} {N : List Str} {ql : Str} {sc : Scope} {f : Addr} {cv : Value} {A : Around} {out : List Env} {st : Shared} {h : Hp} {E : XK} : Takes (cxOf (L2.CX P w) P w K mg base N ql sc f cv A out st h E) (fun cls d _ H' => E cls d H') := takes_of rfl rfl rfl rfl
/-! ### own == beside a value of another type -/
section
variable {X : Cx}
def rEqOth (K : PySem.W.Frag) (C : Addr) (sp : Sp) : R2 := fun x y H Q => ∃ (a dx : Addr) (fs : List (Str × V)) (T : String), x = .ref a ∧ H a = some (.ins C dx fs) ∧ TyB K H y T ∧ (T = "str" ∨ T = "list" ∨ T = "tuple") ∧ PySem.W.notFirst K C (.type T) = true ∧ sp [x, y] H Q E0
theorem ty_looks {M : Model} {s : Shared} {u : Value} {T : String} (h : s.TypeIs u T) (hT : T = "str" ∨ T = "list" ∨ T = "tuple") (hu : (∃ z t, u = .str z t) ∨ ∃ b, u = .ref b) : PySem.W.Looks M s.heap (typeOf u) (.type T) := by
  rcases hu with ⟨z, t, rfl⟩ | ⟨b, rfl⟩
  · intro A Q E s' k q
    have e : typeOf (.str z t) = pure (.type "str") := rfl
    have e2 : typeOf (.str z t) = pure (.type T) := h
    rw [e2]
    exact wpAny_pure q
  · obtain ⟨o, g, c⟩ := h
    exact fun A Q E s' k q => wpAny_typeOf_ref (k _ _ g) (by rw [c]; exact q)
theorem op_eqOth {C : Addr} {ps : List Str} {sp : Sp} {n : Nat} (c : KO.OwnM X.prog X.w X.K X.mg X.base n C "__eq__" ps sp) (room : Room n X.A) : OpR X (compareOp .Eq) (rEqOth X.K C sp) := by
  obtain ⟨g, fd, hs, hf, F, bind⟩ := c.ex
  intro pins st σ h x y v u Z inv rx ry pre
  obtain ⟨a, dx, fs, T, rfl, ha, ty, hT, nf, z⟩ := pre
  obtain rfl : v = Value.ref a := rx
  obtain ⟨od, J⟩ := KO.inst_of inv ha
  obtain ⟨m, hF⟩ := inv.fr
  have hu : (∃ z t, u = .str z t) ∨ ∃ b, u = .ref b := by
    cases ty with
    | str x => obtain ⟨t, rfl⟩ := (show ∃ t, u = Value.str x t from ry); exact .inl ⟨_, _, rfl⟩
    | @lst b => exact .inr ⟨b, ry⟩
    | @tup b => exact .inr ⟨b, ry⟩
    | non => exact absurd hT (by decide)
    | bl => exact absurd hT (by decide)
    | int => exact absurd hT (by decide)
    | byt => exact absurd hT (by decide)
    | dK => exact absurd hT (by decide)
  have lk := ty_looks (M := model X.prog X.w) (ty.is inv ry) hT hu
  rw [show compareOp .Eq (.ref a) u = richCompare .Eq (.ref a) u from rfl]
  refine PySem.W.cmp_K (op := .Eq) (tb := .type T) room.units0 hF inv.ok.mod.kin J lk nf hs hf ?_
  refine wpAny_mono (KO.run0 (E' := X.xe) (xs := [.ref a, y]) F room inv.env0 bind inv (.cons rfl (.cons ry .nil)) z) (fun w s2 r => ?_) fun _ _ z => z
  obtain ⟨z', h2, inv2, rz, qz⟩ := r
  exact SlX.cmpback rz ⟨z', h2, inv2, rz, qz⟩
end
end KL

/-! KC: own objects called, shown by repr, compared with data of any type; classes made with defaults. -/
namespace KC
open PySem PySem.Spec PyProof.Rows L2 KB KG KO
theorem cx_KX {CX : CXT} {P : Program} {w : World} {K : PySem.W.Frag} {mg : Str → Option Value} {base : Heap} {N : List Str} {qual : Str} {sc : Scope} {f : Addr} {cd : Value} {A : Around} {outer : List Env} {s : Shared} {H : Hp} {E : XK} : (cxOf CX P w K mg base N qual sc f cd A outer s H E).K = K := rfl
/-! ### b(e, ..), b an own object -/
section
variable {M : Model} {A : Around} {E : Value → Shared → Prop} {s : Shared} {C dx x : Addr} {pos : Pos} {Q : Value → Shared → Prop}
theorem callWith_own {args : List (Bool × Sem Value)} {kws : List (Option Str × Sem Value)} (plain : (args.any (·.1) || kws.any (·.1.isNone)) = false)
    (h : wpAny M A (evalArgs (.ref x) true args kws) (fun a t => (∃ od, PySem.W.InstAt t.heap x (PySem.W.instObj C dx) C od) ∧ wpAny M A (call (.ref x) a.pos a.kw) Q E t) E s) : wpAny M A (callWith pos (.ref x) [] args kws) Q E s := by
  unfold callWith
  refine wpAny_bind (wpAny_holding (wpAny_mono h (fun a t g => wpAny_bind (wpAny_standAt ?_)) fun _ _ y => y))
  obtain ⟨od, J⟩ := g.1
  have L := PySem.W.kco_keeper (M := M) J rfl
  simp only [plain]
  refine wpAny_bind (L.here ?_)
  have tail : ∀ {m : Sem Value}, wpAny M A m Q E t → wpAny M A (m >>= fun r => holding [r] point >>= fun _ => pure r) Q E t :=
    fun hm => wpAny_bind (wpAny_mono hm (fun r u hr => wpAny_bind (wpAny_holding (wpAny_point (wpAny_pure hr)))) fun _ _ y => y)
  exact tail (wpAny_operateT g.2)
end
section
variable {X : Cx}
structure OwnC (P : Program) (w : World) (K : PySem.W.Frag) (mg : Str → Option Value) (base : Heap) (CX : CXT) (k : Nat) (C : Addr) (ps : List Str) (sp : Sp) : Prop where
  ex : ∃ (g : Addr) (fd : FuncData), PySem.W.findIn K (.ref C) "__call__" = some (some (.ref g)) ∧ PySem.W.isFn K (.ref g) = true ∧ PySem.W.fnIn K g = true ∧ FnOk P w K mg base CX k g fd ps sp ∧ Binds K fd ps []
def tCallO (C : Addr) (sp : Sp) (E : XK) (tf : TE) (t : TA) : TE := fun σ H Q => tf σ H fun x H1 => ∃ (a dx : Addr) (fs : List (Str × V)), x = .ref a ∧ H1 a = some (.ins C dx fs) ∧ t σ H1 fun vs H2 => H2 a = some (.ins C dx fs) ∧ sp (x :: vs) H2 Q E
theorem pe_callO {CX : CXT} {k : Nat} {C : Addr} {x : Str} {ps : List Str} {sp : Sp} {E : XK} {e : Expr} {es : List Expr} {p pos : Pos} {tf : TE} {t : TA} (c : OwnC X.prog X.w X.K X.mg X.base CX k C ps sp) (room : Room k X.A) (pass : Passes CX X E) (hf : PE X (.Name x p) tf) (ha : PA X (e :: es) t)
    (d2 : starEach (e :: es) X.env = (false, eval e X.env) :: starEach es X.env := by rfl) (d3 : (backTo pos (starEach es X.env)).any (·.1) = false := by rfl) :
    PE X (.Call (.Name x p) (e :: es) [] pos) (tCallO C sp E tf t) := by
  obtain ⟨g, fd, hs, hfn, hfi, F, bind⟩ := c.ex
  refine ⟨fun pins st σ h Z inv pre => wpAny_Call_Name_kw (thn (hf.run pins st σ h _ inv pre) fun u s1 r => ?_)⟩
  obtain ⟨v, h1, inv1, rv, a, dx, fs, rfl, ea, z⟩ := r
  obtain rfl : u = Value.ref a := rv
  refine callWith_own (C := C) (dx := dx) (by rw [d2]; show ((false || (backTo pos (starEach es X.env)).any (·.1)) || false) = false; rw [d3]; rfl) ?_
  have main := thn (Q' := fun (ws : List Value) (s2 : Shared) => (∃ od, PySem.W.InstAt s2.heap a (PySem.W.instObj C dx) C od) ∧ wpAny (model X.prog X.w) X.A (call (.ref a) ws) (EP X pins σ Z) X.xe s2) (ha.run pos pins s1 σ h1 _ inv1 z) fun ws s2 r => ?_
  · rw [d2] at main ⊢
    exact Calls.evalArgs_plain main
  · obtain ⟨xs, h2, inv2, rel, ea2, z2⟩ := r
    obtain ⟨od, J⟩ := inst_of inv2 ea2
    refine ⟨⟨_, J⟩, ?_⟩
    have rel2 : Vals (V.ref a :: xs) (Value.ref a :: ws) := .cons rfl rel
    have size : ((Value.ref a :: ws) ++ []).length = ps.length := by rw [List.append_nil, ← rel2.length]; exact F.len _ _ _ _ z2
    have bd := bind s2 (Value.ref a :: ws) inv2.kIn size
    rw [List.append_nil] at bd
    refine wpAny_call (codeAny_mono (PySem.W.kco_code inv2.kIn J rfl hs hfn hfi (F.run X.A X.stack s2 h2 ⟨Value.ref a :: ws, []⟩ _ _ Z E room inv2.env0 bd rel2 z2)) fun res s3 y => ?_)
    match res, y with
    | .error e, y => exact pass pins σ h2 s2 e s3 inv2 y
    | .ok (.ret u), y => exact inv2.after y
    | .ok .next, y => exact y.elim
    | .ok .brk, y => exact y.elim
    | .ok .cont, y => exact y.elim
/-! ### repr(o) by own __repr__ -/
def rReprOwn (C : Addr) (sp : Sp) : List V → Hp → VK → Prop := fun xs H Q => ∃ a dx fs, xs = [.ref a] ∧ H a = some (.ins C dx fs) ∧ sp [.ref a] H (fun v H' => ∃ t, v = .str t ∧ Q (.str t) H') E0
theorem call_reprO {C : Addr} {ps : List Str} {sp : Sp} {n : Nat} (c : OwnM X.prog X.w X.K X.mg X.base n C "__repr__" ps sp) (room : Room (n + 1) X.A) : CallR X (.builtin "repr") (rReprOwn C sp) := by
  obtain ⟨g, fd, hs, hf, F, bind⟩ := c.ex
  intro pins st σ h xs us Z inv rel pre
  obtain ⟨a, dx, fs, rfl, ha, z⟩ := pre
  obtain ⟨u, rfl, ru⟩ := vals_one rel
  obtain rfl : u = Value.ref a := ru
  obtain ⟨od, J⟩ := inst_of inv ha
  obtain ⟨m, hF⟩ := inv.fr
  have un := room.un
  refine PySem.W.repr_K (show X.A.units + 1 < cLine by omega) hF inv.ok.mod.kin J hs hf ?_
  refine wpAny_mono (run0 (E' := X.xe) (xs := [.ref a]) F room.in1 inv.env0.in1 bind inv (.cons rfl .nil) z) (fun w s2 r => ?_) fun _ _ z => z
  obtain ⟨v', h2, inv2, rz, t, rfl, q2⟩ := r
  obtain ⟨tk, rfl⟩ : ∃ tk, w = Value.str t tk := rz
  exact ⟨.str t, h2, inv2, ⟨tk, rfl⟩, q2⟩
/-! ### own == beside data -/
def rEqAny (K : PySem.W.Frag) (C : Addr) (sp : Sp) : R2 := fun x y H Q => ∃ (a dx : Addr) (fs : List (Str × V)) (T : String), x = .ref a ∧ H a = some (.ins C dx fs) ∧ TyB K H y T ∧ T ≠ "bytes" ∧ PySem.W.notFirst K C (.type T) = true ∧ sp [x, y] H Q E0
theorem op_eqAny {C : Addr} {ps : List Str} {sp : Sp} {n : Nat} (c : OwnM X.prog X.w X.K X.mg X.base n C "__eq__" ps sp) (room : Room n X.A) : OpR X (compareOp .Eq) (rEqAny X.K C sp) := by
  obtain ⟨g, fd, hs, hf, F, bind⟩ := c.ex
  intro pins st σ h x y v u Z inv rx ry pre
  obtain ⟨a, dx, fs, T, rfl, ha, ty, hT, nf, z⟩ := pre
  obtain rfl : v = Value.ref a := rx
  obtain ⟨od, J⟩ := inst_of inv ha
  obtain ⟨m, hF⟩ := inv.fr
  have lk : PySem.W.Looks (model X.prog X.w) st.heap (typeOf u) (.type T) := by
    have ti := ty.is inv ry
    have flat : typeOf u = pure (.type T) → PySem.W.Looks (model X.prog X.w) st.heap (typeOf u) (.type T) := fun e A Q E s' k q => by rw [e]; exact wpAny_pure q
    have far : ∀ b, u = .ref b → PySem.W.Looks (model X.prog X.w) st.heap (typeOf u) (.type T) := by
      intro b e
      subst e
      obtain ⟨o, g1, g2⟩ := ti
      exact fun A Q E s' k q => wpAny_typeOf_ref (k _ _ g1) (by rw [g2]; exact q)
    cases ty with
    | non => cases (show u = Value.none from ry); exact flat ti
    | bl b => cases (show u = Value.bool b from ry); exact flat ti
    | int i => obtain ⟨t, rfl⟩ := (show ∃ t, u = Value.int i t from ry); exact flat ti
    | str x => obtain ⟨t, rfl⟩ := (show ∃ t, u = Value.str x t from ry); exact flat ti
    | byt b => exact absurd rfl hT
    | @lst b => exact far b ry
    | @tup b => exact far b ry
    | @dK b => exact far b ry
  rw [show compareOp .Eq (.ref a) u = richCompare .Eq (.ref a) u from rfl]
  refine PySem.W.cmp_K (op := .Eq) (tb := .type T) room.units0 hF inv.ok.mod.kin J lk nf hs hf ?_
  refine wpAny_mono (run0 (E' := X.xe) (xs := [.ref a, y]) F room inv.env0 bind inv (.cons rfl (.cons ry .nil)) z) (fun w s2 r => ?_) fun _ _ z => z
  obtain ⟨z', h2, inv2, rz, qz⟩ := r
  exact SlX.cmpback rz ⟨z', h2, inv2, rz, qz⟩
/-! ### C(e, ..) with defaults -/
structure CalleeID (P : Program) (w : World) (K : PySem.W.Frag) (mg : Str → Option Value) (base : Heap) (CX : CXT) (k : Nat) (C : Addr) (x : Str) (ps : List Str) (sp : Sp) (dvs : List V) : Prop where
  ex : ∃ (f : Addr) (fd : FuncData) (ds : List Value), FnOk P w K mg base CX k f fd ps sp ∧ Mk K C f ∧ mg x = some (.ref C) ∧ Binds K fd ps ds ∧ Vals dvs ds
theorem pe_makeD {CX : CXT} {k : Nat} {C : Addr} {x : Str} {ps : List Str} {sp : Sp} {dvs : List V} {E : XK} {e : Expr} {es : List Expr} {p pos : Pos} {t : TA} (c : CalleeID X.prog X.w X.K X.mg X.base CX k C x ps sp dvs) (room : Room (k + 1) X.A) (gl : Gl X x) (pass : Passes CX X E) (ha : PA X (e :: es) t)
    (d1 : (x == ("__debug__" : Str)) = false := by decide) (d2 : starEach (e :: es) X.env = (false, eval e X.env) :: starEach es X.env := by rfl) (d3 : (backTo pos (starEach es X.env)).any (·.1) = false := by rfl) :
    PE X (.Call (.Name x p) (e :: es) [] pos) (tMake C sp dvs E t) := by
  obtain ⟨f, fd, ds, F, M, hm, hb, hd⟩ := c.ex
  exact pe_make M F room gl hm hb hd pass ha d1 d2 d3
/-! ### f(k = v, ..) -/
theorem pe_callK0 {CX : CXT} {k : Nat} {x : Str} {ps ks : List Str} {sp : Sp} {gV : List V → List V → List V} {E : XK} {kws : List Keyword} {p pos : Pos} {tk : TA} (c : CalleeKw X.prog X.w X.K X.mg X.base CX k x ps sp 0 ks gV) (room : Room k X.A) (gl : Gl X x) (pass : Passes CX X E) (hkw : PK X kws tk)
    (d1 : (backToKw pos (keywordEach kws X.env)).all (·.1.isSome) = true := by rfl) (d2 : (backToKw pos (keywordEach kws X.env)).filterMap (·.1) = ks := by rfl) (d3 : (x == ("__debug__" : Str)) = false := by decide)
    (d4 : ((backTo pos (starEach [] X.env)).any (·.1) || (backToKw pos (keywordEach kws X.env)).any (·.1.isNone)) = false := by rfl) :
    PE X (.Call (.Name x p) [] kws pos) (fun σ H Q => tk σ H fun zs H2 => zs.length = ks.length ∧ sp (gV [] zs) H2 Q E) := by
  obtain ⟨f, fd, g, F, hm, hk, hb⟩ := c.ex
  refine ⟨fun pins st σ h Z inv pre => wpAny_Call_Name_kw (ld_glob inv gl hm ?_ d3)⟩
  refine PySem.W.callWith_KW0 (first := []) (h₀ := X.base) inv.ok.mod.kin hk d1 (thn (hkw.run pos pins st σ h _ inv pre) fun ws s2 r => ?_) d4
  obtain ⟨zs, h2, inv2, rel, l2, z2⟩ := r
  refine ⟨inv2.kIn, ?_⟩
  rw [d2]
  exact run_fnN (us := []) (vs := []) F room hb pass inv2 .nil rel rfl l2 z2
end
theorem r_callO {σ : L2.St} {H : Hp} {Q : VK} {C : Addr} {sp : Sp} {E : XK} {tf : TE} {t : TA} (q : tf σ H fun x H1 => ∃ (a dx : Addr) (fs : List (Str × V)), x = .ref a ∧ H1 a = some (.ins C dx fs) ∧ t σ H1 fun vs H2 => H2 a = some (.ins C dx fs) ∧ sp (x :: vs) H2 Q E) : tCallO C sp E tf t σ H Q := q
theorem r_chain {σ : L2.St} {H : Hp} {Q : VK} {r r' : R2} {ta tb tc : TE} (q : ta σ H fun x H1 => tb σ H1 fun y H2 => r x y H2 fun z H3 => ∃ k, z = .bl k ∧ if k = true then tc σ H3 fun w' H4 => r' y w' H4 Q else Q (.bl false) H3) : tChain r r' ta tb tc σ H Q := q
end KC
/-! ### own object op number -/
namespace KC
open PySem PySem.Spec PyProof.Rows L2 KB KG KO
section
variable {X : Cx}
structure OwnB (P : Program) (w : World) (K : PySem.W.Frag) (mg : Str → Option Value) (base : Heap) (CX : CXT) (k : Nat) (C : Addr) (op : Operator) (ps : List Str) (sp : Sp) : Prop where
  ex : ∃ (g : Addr) (fd : FuncData) (rc fo ro : Option Value), PySem.W.selfFirst K C = true ∧ PySem.W.findIn K (.ref C) (PySem.dunder op.info.2) = some (some (.ref g)) ∧ PySem.W.isFn K (.ref g) = true ∧ PySem.W.findIn K (.ref C) (dunderR op.info.2) = some rc ∧ (rc = none ∨ ∃ g : Addr, rc = some (.ref g)) ∧
    PySem.W.findIn K (.type "int") (PySem.dunder op.info.2) = some fo ∧ PySem.W.findIn K (.type "int") (dunderR op.info.2) = some ro ∧ PySem.W.subIn K (.type "int") (.ref C) = some false ∧ FnOk P w K mg base CX k g fd ps sp ∧ Binds K fd ps []
def rBinO (C : Addr) (sp : Sp) (E : XK) : R2 := fun x y H Q => ∃ (a dx : Addr) (fs : List (Str × V)) (i : Int), x = .ref a ∧ H a = some (.ins C dx fs) ∧ y = .int i ∧ sp [x, y] H Q E
theorem op_bin {CX : CXT} {E : XK} {C : Addr} {op : Operator} {ps : List Str} {sp : Sp} {n : Nat} (c : OwnB X.prog X.w X.K X.mg X.base CX n C op ps sp) (room : Room n X.A) (pass : Passes CX X E) : OpR X (binaryOp op) (rBinO C sp E) := by
  obtain ⟨g, fd, rc, fo, ro, c1, c2, c3, c4, c5, c6, c7, c8, F, bind⟩ := c.ex
  intro pins st σ h x y v u Z inv rx ry pre
  obtain ⟨a, dx, fs, i, rfl, ha, rfl, z⟩ := pre
  obtain rfl : v = Value.ref a := rx
  obtain ⟨tk, rfl⟩ := (show ∃ t, u = Value.int i t from ry)
  obtain ⟨od, J⟩ := inst_of inv ha
  obtain ⟨m, hF⟩ := inv.fr
  refine PySem.W.ksp_binT (T := "int") hF inv.ok.mod.kin J rfl c1 c2 c3 c4 c5 c6 c7 c8 ?_
  refine wpAny_mono (run_fn (us := [.ref a, .int i tk]) (vs := [.ref a, .int i]) F room bind .nil pass inv (.cons rfl (.cons ⟨tk, rfl⟩ .nil)) z) (fun w s2 r => ?_) fun _ _ z => z
  obtain ⟨z', h2, inv2, rz, qz⟩ := r
  exact SlX.cmpback rz ⟨z', h2, inv2, rz, qz⟩
end
end KC

/-! KBL: blends: the mathematics (natural numbers, bit by bit). -/
namespace KBL
/-- the word moved by s -/
def shN (w v : Nat) (s : Int) : Nat := if s < 0 then v / 2 ^ (0 - s).toNat else v * 2 ^ s.toNat % 2 ^ w
theorem bit_sh {w v : Nat} {s : Int} (hv : v < 2 ^ w) (p : Nat) : (shN w v s).testBit p = (decide (p < w) && (decide (s ≤ (p : Int)) && v.testBit ((p : Int) - s).toNat)) := by
  unfold shN
  by_cases h : s < 0
  · rw [if_pos h, Nat.testBit_div_two_pow, show p + (0 - s).toNat = ((p : Int) - s).toNat by omega, decide_eq_true (show s ≤ (p : Int) by omega), Bool.true_and]
    by_cases hp : p < w
    · rw [decide_eq_true hp, Bool.true_and]
    · rw [decide_eq_false hp, Bool.false_and]
      exact Nat.testBit_lt_two_pow (Nat.lt_of_lt_of_le hv (Nat.pow_le_pow_right (by decide) (by omega)))
  · rw [if_neg h, Nat.testBit_mod_two_pow, Nat.testBit_mul_two_pow]
    by_cases hs : s ≤ (p : Int)
    · rw [decide_eq_true (show s.toNat ≤ p by omega), decide_eq_true hs, show p - s.toNat = ((p : Int) - s).toNat by omega]
    · rw [decide_eq_false (show ¬ s.toNat ≤ p by omega), decide_eq_false hs]
      simp
theorem sh_lt {w v : Nat} {s : Int} (hv : v < 2 ^ w) : shN w v s < 2 ^ w := by
  unfold shN
  split
  · exact Nat.lt_of_le_of_lt (Nat.div_le_self _ _) hv
  · exact Nat.mod_lt _ (Nat.two_pow_pos w)
def onesN (w : Nat) : Nat := 2 ^ w - 1
theorem ones_lt (w : Nat) : onesN w < 2 ^ w := by
  have := Nat.two_pow_pos w
  unfold onesN
  omega
def keepN (w : Nat) (s : Int) (k : Nat) : Nat := shN w (onesN w) s &&& k
def shiftN (w : Nat) (s : Int) (k : Nat) : Int := if keepN w s k = 0 then 0 else s
/-- the place p has a source -/
def src (w : Nat) (s : Int) (k p : Nat) : Bool := decide (p < w) && (decide (s ≤ (p : Int)) && (decide ((p : Int) - s < w) && k.testBit p))
theorem bit_keep (w : Nat) (s : Int) (k p : Nat) : (keepN w s k).testBit p = src w s k p := by
  unfold keepN src
  rw [Nat.testBit_and, bit_sh (ones_lt w)]
  unfold onesN
  rw [Nat.testBit_two_pow_sub_one]
  by_cases h : s ≤ (p : Int)
  · rw [decide_eq_true h, show decide (((p : Int) - s).toNat < w) = decide ((p : Int) - s < w) from by
      by_cases q : (p : Int) - s < w
      · rw [decide_eq_true q, decide_eq_true (by omega)]
      · rw [decide_eq_false q, decide_eq_false (by omega)]]
    simp only [Bool.true_and, Bool.and_assoc]
  · rw [decide_eq_false h]
    simp
theorem keep_lt (w : Nat) (s : Int) (k : Nat) : keepN w s k < 2 ^ w := by
  unfold keepN
  rw [Nat.and_comm]
  exact Nat.and_lt_two_pow _ (sh_lt (ones_lt w))
/-- what a blend makes of a word -/
def ap (w : Nat) (s : Int) (k f v : Nat) : Nat := f ^^^ (keepN w s k &&& shN w v s)
theorem ap_lt {w : Nat} {s : Int} {k f v : Nat} (hf : f < 2 ^ w) (hv : v < 2 ^ w) : ap w s k f v < 2 ^ w := Nat.xor_lt_two_pow hf (Nat.and_lt_two_pow _ (sh_lt hv))
theorem bit_ap {w : Nat} {s : Int} {k f v : Nat} (hv : v < 2 ^ w) (p : Nat) : (ap w s k f v).testBit p = (f.testBit p ^^ (src w s k p && v.testBit ((p : Int) - s).toNat)) := by
  unfold ap
  rw [Nat.testBit_xor, Nat.testBit_and, bit_keep, bit_sh hv]
  unfold src
  by_cases h1 : p < w <;> by_cases h2 : s ≤ (p : Int) <;> by_cases h3 : (p : Int) - s < w <;> simp [h1, h2, h3]
/-- the same by the numbers that are kept -/
theorem ap_norm (w : Nat) (s : Int) (k f v : Nat) : f ^^^ (keepN w s k &&& shN w v (shiftN w s k)) = ap w s k f v := by
  unfold ap shiftN
  by_cases h : keepN w s k = 0
  · rw [if_pos h, h, Nat.zero_and, Nat.zero_and]
  · rw [if_neg h]
theorem ap_zero (w : Nat) (s : Int) (k f : Nat) : ap w s k f 0 = f := by
  refine Nat.eq_of_testBit_eq fun p => ?_
  rw [bit_ap (Nat.two_pow_pos w), Nat.zero_testBit, Bool.and_false, Bool.xor_false]
theorem two_lt {j w : Nat} (h : j < w) : 2 ^ j < 2 ^ w := Nat.pow_lt_pow_right (by decide) h
theorem bit_two {w : Nat} {s : Int} {k f j : Nat} (h : j < w) (p : Nat) : (ap w s k f (2 ^ j)).testBit p = (f.testBit p ^^ (src w s k p && decide ((p : Int) - s = j))) := by
  rw [bit_ap (two_lt h), Nat.testBit_two_pow]
  unfold src
  by_cases h2 : s ≤ (p : Int)
  · have e : decide (j = ((p : Int) - s).toNat) = decide ((p : Int) - s = j) := by
      by_cases q : (p : Int) - s = j
      · rw [decide_eq_true q, decide_eq_true (by omega)]
      · rw [decide_eq_false q, decide_eq_false (by omega)]
    rw [e]
  · simp [h2]
theorem src_of {w : Nat} {s : Int} {k p : Nat} (h : src w s k p = true) : p < w ∧ s ≤ (p : Int) ∧ (p : Int) - s < w := by
  unfold src at h
  simp only [Bool.and_eq_true, decide_eq_true_eq] at h
  exact ⟨h.1, h.2.1, h.2.2.1⟩
/-- where two agree at the single bits below n, a source of the one is that of the other -/
theorem src_same {w n : Nat} {s s' : Int} {k k' f f' : Nat} (hf : f = f') (h : ∀ j, j < n → ap w s k f (2 ^ j) = ap w s' k' f' (2 ^ j)) (hn : n ≤ w) {p : Nat} (hp : src w s k p = true) (hj : (p : Int) - s < n) : src w s' k' p = true ∧ (p : Int) - s' = (p : Int) - s := by
  obtain ⟨h1, h2, h3⟩ := src_of hp
  obtain ⟨j, ej⟩ : ∃ j : Nat, (p : Int) - s = j := ⟨((p : Int) - s).toNat, by omega⟩
  have hjn : j < n := by omega
  have e := congrArg (fun x => Nat.testBit x p) (h j hjn)
  simp only [bit_two (show j < w by omega), hp, hf] at e
  rw [decide_eq_true ej] at e
  cases hq : src w s' k' p with
  | false => rw [hq] at e; simp at e
  | true =>
    rw [hq] at e
    by_cases z : (p : Int) - s' = j
    · exact ⟨rfl, by omega⟩
    · rw [decide_eq_false z] at e
      simp at e
theorem bits_below {v n i : Nat} (hv : v < 2 ^ n) (h : v.testBit i = true) : i < n := by
  rcases Nat.lt_or_ge i n with z | z
  · exact z
  · rw [Nat.testBit_lt_two_pow (Nat.lt_of_lt_of_le hv (Nat.pow_le_pow_right (by decide) z))] at h
    cases h
/-- .. then they agree at all words below 2 ^ n -/
theorem agree {w n : Nat} {s s' : Int} {k k' f f' : Nat} (hf : f = f') (h : ∀ j, j < n → ap w s k f (2 ^ j) = ap w s' k' f' (2 ^ j)) (hn : n ≤ w) {v : Nat} (hv : v < 2 ^ n) : ap w s k f v = ap w s' k' f' v := by
  have hvw : v < 2 ^ w := Nat.lt_of_lt_of_le hv (Nat.pow_le_pow_right (by decide) hn)
  have one : ∀ {s s' : Int} {k k' f f' : Nat}, f = f' → (∀ j, j < n → ap w s k f (2 ^ j) = ap w s' k' f' (2 ^ j)) → ∀ p, (src w s k p && v.testBit ((p : Int) - s).toNat) = true → (src w s' k' p && v.testBit ((p : Int) - s').toNat) = true := by
    intro s s' k k' f f' hf h p hp
    obtain ⟨h1, h2⟩ := Bool.and_eq_true_iff.mp hp
    have h3 := bits_below hv h2
    obtain ⟨g1, g2⟩ := src_same hf h hn h1 (by have := (src_of h1).2.1; omega)
    rw [g1, g2, h2]
    rfl
  refine Nat.eq_of_testBit_eq fun p => ?_
  rw [bit_ap hvw, bit_ap hvw, hf]
  congr 1
  cases e : (src w s k p && v.testBit ((p : Int) - s).toNat) with
  | true => exact (one hf h p e).symm
  | false =>
    cases e' : (src w s' k' p && v.testBit ((p : Int) - s').toNat) with
    | false => rfl
    | true =>
      have := one hf.symm (fun j hj => (h j hj).symm) p e'
      rw [e] at this
      cases this
/-- equal at 0 and at the single bits: the numbers are equal -/
theorem norm_eq {w : Nat} {s s' : Int} {k k' f f' : Nat} (hf : f = f') (h : ∀ j, j < w → ap w s k f (2 ^ j) = ap w s' k' f' (2 ^ j)) : keepN w s k = keepN w s' k' ∧ shiftN w s k = shiftN w s' k' := by
  have up : ∀ {p}, src w s k p = true → src w s' k' p = true ∧ (p : Int) - s' = (p : Int) - s := fun {p} hp => src_same hf h (Nat.le_refl _) hp (src_of hp).2.2
  have dn : ∀ {p}, src w s' k' p = true → src w s k p = true ∧ (p : Int) - s = (p : Int) - s' := fun {p} hp => src_same hf.symm (fun j hj => (h j hj).symm) (Nat.le_refl _) hp (src_of hp).2.2
  have ek : keepN w s k = keepN w s' k' := by
    refine Nat.eq_of_testBit_eq fun p => ?_
    rw [bit_keep, bit_keep]
    cases e : src w s k p with
    | true => exact (up e).1.symm
    | false =>
      cases e' : src w s' k' p with
      | false => rfl
      | true => have := (dn e').1; rw [e] at this; cases this
  refine ⟨ek, ?_⟩
  unfold shiftN
  rw [← ek]
  by_cases z : keepN w s k = 0
  · rw [if_pos z, if_pos z]
  · rw [if_neg z, if_neg z]
    have : ∃ p, (keepN w s k).testBit p = true := by
      rcases Classical.em (∃ p, (keepN w s k).testBit p = true) with g | g
      · exact g
      · refine absurd (Nat.eq_of_testBit_eq fun p => ?_) z
        rw [Nat.zero_testBit]
        cases e : (keepN w s k).testBit p with
        | false => rfl
        | true => exact absurd ⟨p, e⟩ g
    obtain ⟨p, hp⟩ := this
    rw [bit_keep] at hp
    have := (up hp).2
    omega
theorem norm_ap {w : Nat} {s s' : Int} {k k' f f' : Nat} (hk : keepN w s k = keepN w s' k') (hs : shiftN w s k = shiftN w s' k') (hf : f = f') (v : Nat) : ap w s k f v = ap w s' k' f' v := by
  rw [← ap_norm w s k f v, ← ap_norm w s' k' f' v, hk, hs, hf]
/-! ### where two part -/
def parts (F G : Nat → Nat) (v : Nat) : Bool := decide (F v ≠ G v)
def bits (w : Nat) : List Nat := (List.range w).map (2 ^ ·)
/-- the least word of 0 and the single bits at which F and G part -/
def parting (w : Nat) (F G : Nat → Nat) : Option Nat := (0 :: bits w).find? (parts F G)
theorem parting_none {w : Nat} {F G : Nat → Nat} : parting w F G = none ↔ F 0 = G 0 ∧ ∀ j, j < w → F (2 ^ j) = G (2 ^ j) := by
  unfold parting bits parts
  rw [List.find?_eq_none]
  constructor
  · intro h
    refine ⟨?_, fun j hj => ?_⟩
    · have := h 0 (List.mem_cons_self ..)
      simpa using this
    · have := h (2 ^ j) (List.mem_cons_of_mem _ (List.mem_map.mpr ⟨j, List.mem_range.mpr hj, rfl⟩))
      simpa using this
  · rintro ⟨h0, h⟩ x hx
    rcases List.mem_cons.mp hx with rfl | hx
    · simp [h0]
    · obtain ⟨j, hj, rfl⟩ := List.mem_map.mp hx
      simp [h j (List.mem_range.mp hj)]
theorem find_range {q : Nat → Bool} : ∀ (n : Nat) (m : Nat), m < n → q m = true → (∀ i, i < m → q i = false) → (List.range n).find? q = some m := by
  intro n m hm h1 h2
  induction n with
  | zero => omega
  | succ n ih =>
    rw [List.range_succ, List.find?_append]
    by_cases e : m < n
    · rw [ih e]
      rfl
    · have e' : m = n := by omega
      subst e'
      have no : (List.range m).find? q = none := by
        rw [List.find?_eq_none]
        intro x hx
        rw [h2 x (List.mem_range.mp hx)]
        decide
      rw [no]
      simp [List.find?, h1]
theorem parting_some {w : Nat} {F G : Nat → Nat} {d : Nat} (h : parting w F G = some d) : F d ≠ G d ∧ (d = 0 ∨ ∃ j, j < w ∧ d = 2 ^ j ∧ F 0 = G 0 ∧ ∀ i, i < j → F (2 ^ i) = G (2 ^ i)) := by
  have hp : parts F G d = true := List.find?_some h
  refine ⟨by simpa [parts] using hp, ?_⟩
  unfold parting at h
  rw [List.find?_cons] at h
  cases e : parts F G 0 with
  | true => rw [e] at h; exact .inl (Option.some.inj h).symm
  | false =>
    rw [e] at h
    have h0 : F 0 = G 0 := by simpa [parts] using e
    have h' : (bits w).find? (parts F G) = some d := h
    unfold bits at h'
    rw [List.find?_map] at h'
    cases e2 : (List.range w).find? (parts F G ∘ fun x => 2 ^ x) with
    | none => rw [e2] at h'; cases h'
    | some j =>
      rw [e2] at h'
      have hd : 2 ^ j = d := Option.some.inj h'
      obtain ⟨as, bs, e3, e4⟩ := List.find?_eq_some_iff_append.mp e2 |>.2
      refine .inr ⟨j, List.mem_range.mp (List.mem_of_find?_eq_some e2), hd.symm, h0, fun i hi => ?_⟩
      have : i ∈ as := by
        have hl : as.length = j := by
          have := congrArg (fun l => l[as.length]?) e3
          simp at this
          have h5 : as.length < w := by
            have := congrArg List.length e3
            simp at this
            omega
          simp [h5] at this
          exact this
        have hi2 : i < as.length := by omega
        have q := congrArg (fun l => l[i]?) e3
        have hiw : i < w := by
          have := congrArg List.length e3
          simp at this
          omega
        rw [show (as ++ j :: bs)[i]? = as[i]? from List.getElem?_append_left hi2, List.getElem?_range hiw] at q
        exact List.mem_of_getElem? q.symm
      have := e4 i this
      simpa [parts] using this
/-- two blends: all words below the parting word agree -/
theorem below {w : Nat} {s s' : Int} {k k' f f' d v : Nat} (h : parting w (ap w s k f) (ap w s' k' f') = some d) (hv : v < d) : ap w s k f v = ap w s' k' f' v := by
  rcases (parting_some h).2 with rfl | ⟨j, hj, rfl, h0, h1⟩
  · omega
  · rw [ap_zero, ap_zero] at h0
    exact agree h0 h1 (Nat.le_of_lt hj) hv
/-- found among all words -/
theorem parting_all {w : Nat} {s s' : Int} {k k' f f' : Nat} : (List.range (2 ^ w)).find? (parts (ap w s k f) (ap w s' k' f')) = parting w (ap w s k f) (ap w s' k' f') := by
  cases e : parting w (ap w s k f) (ap w s' k' f') with
  | none =>
    obtain ⟨h0, h1⟩ := parting_none.mp e
    rw [ap_zero, ap_zero] at h0
    rw [List.find?_eq_none]
    intro x hx
    simp [parts, agree h0 h1 (Nat.le_refl w) (List.mem_range.mp hx)]
  | some d =>
    have hd := parting_some e
    have dl : d < 2 ^ w := by
      rcases hd.2 with rfl | ⟨j, hj, rfl, _⟩
      · exact Nat.two_pow_pos w
      · exact two_lt hj
    refine find_range _ d dl (by simpa [parts] using hd.1) fun i hi => ?_
    simp [parts, below e hi]
/-- the numbers are equal just where there is no such word -/
theorem same_iff {w : Nat} {s s' : Int} {k k' f f' : Nat} : parting w (ap w s k f) (ap w s' k' f') = none ↔ (shiftN w s k = shiftN w s' k' ∧ keepN w s k = keepN w s' k' ∧ f = f') := by
  rw [parting_none, ap_zero, ap_zero]
  constructor
  · rintro ⟨h0, h1⟩
    obtain ⟨g1, g2⟩ := norm_eq h0 h1
    exact ⟨g2, g1, h0⟩
  · rintro ⟨h1, h2, h3⟩
    exact ⟨h3, fun j _ => norm_ap h2 h1 h3 _⟩
end KBL
/-! ### numbers of the model -/
namespace KBL
open PySem
theorem bAnd (a b : Nat) : Builtin.bitAnd (a : Int) (b : Int) = ((a &&& b : Nat) : Int) := by
  rw [PyProof.Rows.bitAnd_pp (by omega) (by omega)]
  rfl
theorem xor_and_add (a : Nat) : ∀ b : Nat, (a ^^^ b) + 2 * (a &&& b) = a + b := by
  induction a using Nat.strongRecOn with
  | _ a ih =>
    intro b
    by_cases h : a = 0
    · subst h; simp
    · have e := ih (a / 2) (by omega) (b / 2)
      have x1 := Nat.xor_mod_two_pow (a := a) (b := b) (n := 1)
      have x2 := Nat.and_mod_two_pow (a := a) (b := b) (n := 1)
      have x3 := Nat.xor_div_two_pow (a := a) (b := b) (n := 1)
      have x4 := Nat.and_div_two_pow (a := a) (b := b) (n := 1)
      simp only [Nat.pow_one] at x1 x2 x3 x4
      have da := Nat.div_add_mod a 2
      have db := Nat.div_add_mod b 2
      have dx := Nat.div_add_mod (a ^^^ b) 2
      have dy := Nat.div_add_mod (a &&& b) 2
      rw [x1, x3] at dx
      rw [x2, x4] at dy
      rcases Nat.mod_two_eq_zero_or_one a with ha | ha <;> rcases Nat.mod_two_eq_zero_or_one b with hb | hb <;> rw [ha, hb] at dx dy <;> rw [ha] at da <;> rw [hb] at db <;> simp at dx dy <;> omega
theorem bXor (a b : Nat) : Builtin.bitXor (a : Int) (b : Int) = ((a ^^^ b : Nat) : Int) := by
  rw [PyProof.Rows.bitXor_and, bAnd]
  have := xor_and_add a b
  omega
theorem ofShr (v : Nat) (j : Int) : (v : Int) / 2 ^ j.toNat = ((v / 2 ^ j.toNat : Nat) : Int) := by
  rw [Int.natCast_ediv, Int.natCast_pow]
  rfl
theorem ofShl (v : Nat) (j : Int) : (v : Int) * 2 ^ j.toNat = ((v * 2 ^ j.toNat : Nat) : Int) := by
  rw [Int.natCast_mul, Int.natCast_pow]
  rfl
theorem shl_and (w v : Nat) (j : Int) : Builtin.bitAnd ((v : Int) * 2 ^ j.toNat) ((onesN w : Nat) : Int) = ((v * 2 ^ j.toNat % 2 ^ w : Nat) : Int) := by
  rw [ofShl, bAnd]
  unfold onesN
  rw [Nat.and_two_pow_sub_one_eq_mod]
end KBL
/-! ### texts of numbers -/
namespace KBL
open PySem
def dg (i : Int) : List Nat := (Str.ofString (toString i)).cps.toList
theorem dg_is (i : Int) : dg i = (toString i).toList.map Char.toNat := PyProof.Rows.signs_ofString _
theorem map_char : ∀ {a b : List Char}, a.map Char.toNat = b.map Char.toNat → a = b
  | [], [], _ => rfl
  | [], _ :: _, h => by cases h
  | _ :: _, [], h => by cases h
  | x :: a, y :: b, h => by
    rw [List.map_cons, List.map_cons] at h
    injection h with h1 h2
    have e : x = y := Char.toNat_inj.mp h1
    rw [e, map_char h2]
theorem dg_inj {i j : Int} (h : dg i = dg j) : i = j := by
  rw [dg_is, dg_is] at h
  have e := map_char h
  rw [String.toList_inj] at e
  rw [Int.toString_eq_repr, Int.toString_eq_repr] at e
  exact Int.repr_inj.mp e
theorem nat_no (n : Nat) : ∀ c ∈ (Nat.repr n).toList, c.toNat ≠ 44 := by
  intro c hc
  rw [Nat.toList_repr] at hc
  have h := Nat.isDigit_of_mem_toDigits (by decide) (by decide) hc
  simp only [Char.isDigit, Bool.and_eq_true, decide_eq_true_eq] at h
  have h2 : 48 ≤ c.val.toNat := by simpa using UInt32.le_iff_toNat_le.mp h.1
  have e : c.val.toNat = c.toNat := rfl
  omega
theorem dg_no (i : Int) : 44 ∉ dg i := by
  rw [dg_is]
  intro hc
  obtain ⟨c, hc, e⟩ := List.mem_map.mp hc
  rw [Int.toString_eq_repr, Int.repr_eq_if] at hc
  split at hc
  · exact nat_no _ c hc e
  · rw [String.toList_append, List.mem_append] at hc
    rcases hc with hc | hc
    · have : c = '-' := by simpa using hc
      subst this
      exact absurd e (by decide)
    · exact nat_no _ c hc e
theorem cut44 : ∀ {a b x y : List Nat}, 44 ∉ a → 44 ∉ b → a ++ 44 :: x = b ++ 44 :: y → a = b ∧ x = y
  | [], [], _, _, _, _, h => by
    injection h with _ h
    exact ⟨rfl, h⟩
  | [], c :: b, _, _, _, hb, h => by
    injection h with h1 _
    exact absurd (by rw [← h1]; exact List.mem_cons_self ..) hb
  | c :: a, [], _, _, ha, _, h => by
    injection h with h1 _
    exact absurd (by rw [h1]; exact List.mem_cons_self ..) ha
  | c :: a, d :: b, x, y, ha, hb, h => by
    injection h with h1 h2
    obtain ⟨g1, g2⟩ := cut44 (fun z => ha (List.mem_cons_of_mem _ z)) (fun z => hb (List.mem_cons_of_mem _ z)) h2
    exact ⟨by rw [h1, g1], g2⟩
def bText (w s k f : Int) : Str := Str.empty ++ "Blend(" ++ toString w ++ ", " ++ toString s ++ ", " ++ toString k ++ ", " ++ toString f ++ ")"
theorem bText_list (w s k f : Int) : (bText w s k f).cps.toList = [66, 108, 101, 110, 100, 40] ++ (dg w ++ 44 :: (32 :: dg s ++ 44 :: (32 :: dg k ++ 44 :: (32 :: dg f ++ [41])))) := by
  unfold bText dg
  simp only [Str.cps_append, Array.toList_append, List.append_assoc]
  rfl
theorem no32 {l : List Nat} (h : 44 ∉ l) : 44 ∉ (32 :: l) := fun z => (List.mem_cons.mp z).elim (fun e => by cases e) h
theorem bText_inj {w s k f w' s' k' f' : Int} (h : bText w s k f = bText w' s' k' f') : w = w' ∧ s = s' ∧ k = k' ∧ f = f' := by
  have e := congrArg (fun x : Str => x.cps.toList) h
  simp only [bText_list] at e
  have e := List.append_cancel_left e
  obtain ⟨e1, e⟩ := cut44 (dg_no w) (dg_no w') e
  obtain ⟨e2, e⟩ := cut44 (a := 32 :: dg s) (b := 32 :: dg s') (no32 (dg_no s)) (no32 (dg_no s')) e
  obtain ⟨e3, e⟩ := cut44 (a := 32 :: dg k) (b := 32 :: dg k') (no32 (dg_no k)) (no32 (dg_no k')) e
  have e4 := List.append_cancel_right e
  injection e2 with _ e2
  injection e3 with _ e3
  injection e4 with _ e4
  exact ⟨dg_inj e1, dg_inj e2, dg_inj e3, dg_inj e4⟩
theorem num_len {i : Int} (h : i.natAbs.log2 < 1920) : (Str.ofString (toString i)).length ≤ 1921 := PyProof.Rows.int_text_len_1921 h
end KBL
namespace KBL
open PySem
def b2n (b : Bool) : Nat := if b then 1 else 0
theorem bit_one (n p : Nat) : Builtin.bitAnd ((n : Int) / 2 ^ p) 1 = ((b2n (n.testBit p) : Nat) : Int) := by
  rw [show ((n : Int) / 2 ^ p) = ((n / 2 ^ p : Nat) : Int) by rw [Int.natCast_ediv, Int.natCast_pow]; rfl]
  rw [show (1 : Int) = ((1 : Nat) : Int) from rfl, bAnd, Nat.and_one_is_mod, Nat.testBit_eq_decide_div_mod_eq]
  unfold b2n
  have := Nat.mod_two_eq_zero_or_one (n / 2 ^ p)
  rcases this with h | h <;> rw [h] <;> rfl
theorem b2n_one (b : Bool) : (((b2n b : Nat) : Int) = 1) ↔ b = true := by
  cases b <;> decide
theorem b2n_xor (a b : Bool) : Builtin.bitXor ((b2n a : Nat) : Int) ((b2n b : Nat) : Int) = ((b2n (a ^^ b) : Nat) : Int) := by
  rw [bXor]
  cases a <;> cases b <;> rfl
theorem mod_next (x i : Nat) : x % 2 ^ (i + 1) = x % 2 ^ i + b2n (x.testBit i) * 2 ^ i := by
  rw [Nat.mod_pow_succ, Nat.testBit_eq_decide_div_mod_eq]
  unfold b2n
  have := Nat.mod_two_eq_zero_or_one (x / 2 ^ i)
  rcases this with h | h <;> rw [h] <;> simp
end KBL

/-! KD: comprehensions whose elements are made. -/
namespace KD
open PySem PySem.Spec PyProof.Rows L2 KB KG KO
/-- all but lists is kept -/
def SameN (H H' : Hp) : Prop := ∀ a o, H a = some o → (∀ xs, o ≠ .lst xs) → H' a = some o
theorem SameN.of {H H' : Hp} (s : Same H H') : SameN H H' := fun a o e _ => s a o e
theorem SameN.trans {H H' H2 : Hp} (s : SameN H H') (t : SameN H' H2) : SameN H H2 := fun a o e n => t a o (s a o e n) n
theorem SameN.tup {H H' : Hp} {a : Addr} {xs : List V} (s : SameN H H') (h : H a = some (.tup xs)) : H' a = some (.tup xs) := s a _ h (fun _ z => by cases z)
theorem SameN.ins {H H' : Hp} {a C dx : Addr} {fs : List (Str × V)} (s : SameN H H') (h : H a = some (.ins C dx fs)) : H' a = some (.ins C dx fs) := s a _ h (fun _ z => by cases z)
/-- a comprehension without a test; R i v H: what the i-th element is -/
theorem lc_made {J : It} {n : Nat} {G : Hp → Prop} {Y : Nat → Hp → V → Hp → Prop} (wk : Walk J n G Y) {g : TG} {tt : TT} {te : TE} {vs : List Nat} {σ : L2.St} {H1 : Hp} {Q : VK} (R : Nat → V → Hp → Prop) (hn : n ≤ 10000)
    (up : ∀ i v H H', R i v H → SameN H H' → R i v H') (hG : ∀ H', Same H1 H' → G H')
    (hs : ∀ i x H H' (N : V → Hp → Prop) (B : Hp → Prop), i < n → Same H1 H → Y i H x H' → (∀ v H2, Same H H2 → R i v H2 → N v H2) → g x (wipe σ vs) H' fun σ2 H2 => wipe σ2 vs = wipe σ vs ∧ tt σ2 H2 fun b H3 => if b = true then te σ2 H3 N else B H3)
    (hd : ∀ D H' (ys : List V), H1 D = none → Same H1 H' → H' D = some (.lst ys) → ys.length = n → (∀ i v, ys[i]? = some v → R i v H') → Q (.ref D) H') :
    LcW J g tt te vs σ H1 Q := by
  intro D hD
  refine lc_it wk (Qd := fun H => Q (.ref D) H) (fun i H => Same H1 H ∧ ∃ ys : List V, H D = some (.lst ys) ∧ ys.length = i ∧ ∀ j v, ys[j]? = some v → R j v H) ⟨same_new hD, [], upd_same, rfl, fun j v e => by simp at e⟩ (fun i H _ p => hG H p.1) (fun i x H H' hi p y => ?_) (fun H p => ?_)
  · obtain ⟨sm, ys, hy, hl, hR⟩ := p
    refine hs i x H H' _ _ hi sm y (fun v H2 s2 r => ?_)
    have kp : ∀ zs, SameN H2 (upd H2 D (.lst zs)) := fun zs a o e no => by
      rw [upd_ne (fun z => no ys (by rw [z, s2 _ _ hy] at e; exact (Option.some.inj e).symm))]
      exact e
    refine ⟨ys, s2 _ _ hy, small1000' (by omega), same_mut (sm.trans s2) hD, ys ++ [v], upd_same, by simp [hl], fun j w e => ?_⟩
    by_cases hj : j < ys.length
    · rw [List.getElem?_append_left hj] at e
      exact up _ _ _ _ (hR j w e) ((SameN.of s2).trans (kp _))
    · rw [List.getElem?_append_right (by omega)] at e
      have h0 : j - ys.length = 0 := by
        cases z : j - ys.length with
        | zero => rfl
        | succ m => rw [z] at e; simp at e
      rw [h0] at e
      have ew : v = w := Option.some.inj e
      subst ew
      have ej : j = i := by omega
      subst ej
      exact up _ _ _ _ r (kp _)
  · obtain ⟨sm, ys, hy, hl, hR⟩ := p
    exact hd D H ys hD sm hy hl hR
/-- a comprehension whose test is never true -/
theorem lc_none {J : It} {n : Nat} {G : Hp → Prop} {Y : Nat → Hp → V → Hp → Prop} (wk : Walk J n G Y) {g : TG} {tt : TT} {te : TE} {vs : List Nat} {σ : L2.St} {H1 : Hp} {Q : VK}
    (hG : ∀ H', Same H1 H' → G H')
    (hs : ∀ i x H H' (B : Hp → Prop) (N : V → Hp → Prop), i < n → Same H1 H → Y i H x H' → (∀ H2, Same H H2 → B H2) → g x (wipe σ vs) H' fun σ2 H2 => wipe σ2 vs = wipe σ vs ∧ tt σ2 H2 fun b H3 => if b = true then te σ2 H3 N else B H3)
    (hd : ∀ D H', H1 D = none → Same H1 H' → H' D = some (.lst []) → Q (.ref D) H') :
    LcW J g tt te vs σ H1 Q := by
  intro D hD
  refine lc_it wk (Qd := fun H => Q (.ref D) H) (fun i H => Same H1 H ∧ H D = some (.lst [])) ⟨same_new hD, upd_same⟩ (fun i H _ p => hG H p.1) (fun i x H H' hi p y => ?_) (fun H p => hd D H hD p.1 p.2)
  exact hs i x H H' _ _ hi p.1 y (fun H2 s2 => ⟨p.1.trans s2, s2 _ _ p.2⟩)
theorem r_yes {σ : L2.St} {H : Hp} {QT : Bool → Hp → Prop} (q : QT true H) : tYes σ H QT := q
/-! ### what repr shows -/
open KY
theorem fit_int {tag : Str} (ht : (reprText tag).length ≤ 100) {i : Int} (h : i.natAbs.log2 < 1920) : Fit tag (.sc (.int i)) := by
  have l := KBL.num_len h
  have sl2 : 10000 ≤ sizeLine := by decide
  refine ⟨?_, ?_, ?_⟩
  · simp only [Dt.d, Sc.d, PyData.showable]
    exact decide_eq_true h
  · simp [KY.pairD, PyData.depth, PyData.depthAll, Dt.d, Sc.d]
  · simp only [KY.pairD, PyData.shown, PyData.shownAll, Dt.d, Sc.d, listText, textFrom, Str.length_append]
    have c1 : (Str.ofString "[").length = 1 := by decide +kernel
    have c2 : (Str.ofString "]").length = 1 := by decide +kernel
    have c3 : (Str.ofString (if 0 > 0 then ", " else "")).length = 0 := by decide +kernel
    have c4 : (Str.ofString (if 0 + 1 > 0 then ", " else "")).length = 2 := by decide +kernel
    omega
def fitB (tag : Str) (t : Dt) : Bool := PyData.showable t.d && decide ((KY.pairD tag t).depth ≤ 60) && decide ((KY.pairD tag t).shown.length ≤ 1000)
theorem fit_of {tag : Str} {t : Dt} (h : fitB tag t = true) : Fit tag t := by
  unfold fitB at h
  simp only [Bool.and_eq_true, decide_eq_true_eq] at h
  exact ⟨h.1.1, h.1.2, Nat.le_trans h.2 (by decide)⟩
theorem strOk_of (s : String) : PyData.strOk (Str.ofString s) = true := by
  unfold PyData.strOk
  rw [Str.ofString_eq_toList]
  rw [List.all_toArray, List.all_eq_true]
  intro x hx
  obtain ⟨c, _, rfl⟩ := List.mem_map.mp hx
  have h := c.valid
  have e : c.toNat = c.val.toNat := rfl
  refine decide_eq_true ?_
  rw [e]
  rcases h with h | h
  · have : c.val.toNat < 0xd800 := h
    omega
  · have : c.val.toNat < 0x110000 := h.2
    omega
theorem strOk_app (a b : Str) : PyData.strOk (a ++ b) = (PyData.strOk a && PyData.strOk b) := by
  unfold PyData.strOk
  show (a.cps ++ b.cps).all _ = _
  rw [Array.all_append]
theorem ok_intText {tag : Str} (ht : PyData.strOk (reprText tag) = true) (i : Int) : PyData.strOk (KY.pairD tag (.sc (.int i))).shown = true := by
  simp only [KY.pairD, PyData.shown, PyData.shownAll, Dt.d, Sc.d, listText, textFrom, strOk_app, strOk_of, ht, Bool.and_self]
/-! ### f(k = v, ..), its reading named -/
section
variable {X : Cx}
def tCK (ks : List Str) (sp : Sp) (gV : List V → List V → List V) (E : XK) (tk : TA) : TE := fun σ H Q => tk σ H fun zs H2 => zs.length = ks.length ∧ sp (gV [] zs) H2 Q E
theorem pe_callK {CX : CXT} {k : Nat} {x : Str} {ps ks : List Str} {sp : Sp} {gV : List V → List V → List V} {E : XK} {kws : List Keyword} {p pos : Pos} {tk : TA} (c : CalleeKw X.prog X.w X.K X.mg X.base CX k x ps sp 0 ks gV) (room : Room k X.A) (gl : Gl X x) (pass : Passes CX X E) (hkw : PK X kws tk)
    (d1 : (backToKw pos (keywordEach kws X.env)).all (·.1.isSome) = true := by rfl) (d2 : (backToKw pos (keywordEach kws X.env)).filterMap (·.1) = ks := by rfl) (d3 : (x == ("__debug__" : Str)) = false := by decide)
    (d4 : ((backTo pos (starEach [] X.env)).any (·.1) || (backToKw pos (keywordEach kws X.env)).any (·.1.isNone)) = false := by rfl) :
    PE X (.Call (.Name x p) [] kws pos) (tCK ks sp gV E tk) := KC.pe_callK0 c room gl pass hkw d1 d2 d3 d4
theorem r_ck {σ : L2.St} {H : Hp} {Q : VK} {ks : List Str} {sp : Sp} {gV : List V → List V → List V} {E : XK} {tk : TA} (q : tk σ H fun zs H2 => zs.length = ks.length ∧ sp (gV [] zs) H2 Q E) : tCK ks sp gV E tk σ H Q := q
end
end KD

/-! KR: own object beside data of any type under &, |, ^, <<, >>, on either side. -/
namespace KR
open PySem PySem.Spec PyProof.Rows L2 KB KG KO KY
section
variable {prog : Program} {w : World} {A : Around} {E : Value → Shared → Prop} {s : Shared} {K : PySem.W.Frag} {x C L g g2 : Addr} {hb : Heap} {m : Str → Option Value} {ox : Obj} {od : Option Obj} {T : String}
open PySem.W in
/-- o op v -/
theorem bin_left {op : Operator} {v : Value} {fo ro rc : Option Value} {Z : Value → Shared → Prop} (F : Fr hb L s.heap m) (X0 : K.In hb) (I : InstAt s.heap x ox C od) (lv : Looks (model prog w) s.heap (typeOf v) (.type T)) (c1 : selfFirst K C = true)
    (c2 : findIn K (.ref C) (PySem.dunder op.info.2) = some (some (.ref g))) (c3 : isFn K (.ref g) = true) (c4 : findIn K (.ref C) (dunderR op.info.2) = some rc) (c5 : rc = none ∨ ∃ z : Addr, rc = some (.ref z))
    (c6 : findIn K (.type T) (PySem.dunder op.info.2) = some fo) (c7 : findIn K (.type T) (dunderR op.info.2) = some ro) (c8 : subIn K (.type T) (.ref C) = some false)
    (go : wpAny (model prog w) A (call (.ref g) [.ref x, v]) (PySem.W.CmpBack Z) E s) : wpAny (model prog w) A (binaryOp op (.ref x) v) Z E s := by
  have XK := X0.keeps F.keep
  obtain ⟨cd, rest, hcd, hmro⟩ := ksp_first c1
  rcases oi : op.info with ⟨sy, n1⟩
  rw [oi] at c2 c4 c6 c7
  dsimp only at c2 c4 c6 c7
  have once := ksp_try XK I c2 c3 go
  obtain ⟨sh, sg, sd, stk, sos⟩ := s
  have k1 : Looks (model prog w) sh (typeOf (.ref x)) (.ref C) := I.type
  have k2 : Looks (model prog w) sh (typeOf v) (.type T) := lv
  have k3 : Looks (model prog w) sh (fillsNumberSlot (.ref C) n1) true := fills_K XK hcd hmro c2
  have k4 : Looks (model prog w) sh (fillsNumberSlot (.type T) n1) _ := ksp_fillsT XK c6 c7
  have k5 : Looks (model prog w) sh (isSubtype (.type T) (.ref C)) false := looks_subIn XK c8
  have k6 : Looks (model prog w) sh (numberSlotInPython (.ref C) n1) true := ksp_inPy XK c2 c4 c5
  have k7 : Looks (model prog w) sh (numberSlotInPython (.type T) n1) false := Looks.of_pure rfl
  have k8 : Looks (model prog w) sh (typeLookup (.type T) (dunderR n1)) ro := looks_findIn XK c7
  revert k4
  generalize ((fo.isSome && !isSeqSlot fo) || (ro.isSome && !isSeqSlot ro)) = rt
  intro k4
  have nq : (Value.ref C == Value.type T) = false := Bool.eq_false_iff.mpr fun q => by cases beq_iff_eq.mp q
  simp only [binaryOp, oi]
  refine wpAny_holding (wpAny_bind ?_)
  unfold binaryOp1
  refine wpAny_bind (k1.at (wpAny_bind (k2.at (wpAny_bind (k3.at ?_)))))
  simp only [nq, Bool.false_eq_true, if_false]
  cases rt
  all_goals
    ksp_lk
    refine wpAny_mono once (fun r s' y => ?_) fun _ _ e => e
    obtain ⟨v', rfl, hq⟩ := y
    ksp_lk
    exact hq
open PySem.W in
/-- v op o -/
theorem bin_right {op : Operator} {v : Value} {fo ro : Option Value} {fl : Bool} {Z : Value → Shared → Prop} (F : Fr hb L s.heap m) (X0 : K.In hb) (I : InstAt s.heap x ox C od) (lv : Looks (model prog w) s.heap (typeOf v) (.type T)) (c1 : selfFirst K C = true)
    (c2 : findIn K (.ref C) (PySem.dunder op.info.2) = some (some (.ref g2))) (c3 : isFn K (.ref g) = true) (c4 : findIn K (.ref C) (dunderR op.info.2) = some (some (.ref g)))
    (c6 : findIn K (.type T) (PySem.dunder op.info.2) = some fo) (c7 : findIn K (.type T) (dunderR op.info.2) = some ro) (c9 : ((fo.isSome && !isSeqSlot fo) || (ro.isSome && !isSeqSlot ro)) = fl) (c8 : fl = true → subIn K (.ref C) (.type T) = some false)
    (no : fl = true → Looks (model prog w) s.heap (tryMethod v (PySem.dunder op.info.2) (.ref x)) none)
    (go : wpAny (model prog w) A (call (.ref g) [.ref x, v]) (PySem.W.CmpBack Z) E s) : wpAny (model prog w) A (binaryOp op v (.ref x)) Z E s := by
  have XK := X0.keeps F.keep
  obtain ⟨cd, rest, hcd, hmro⟩ := ksp_first c1
  rcases oi : op.info with ⟨sy, n1⟩
  rw [oi] at c2 c4 c6 c7 no
  dsimp only at c2 c4 c6 c7 no
  have once := ksp_try XK I c4 c3 go
  obtain ⟨sh, sg, sd, stk, sos⟩ := s
  have k1 : Looks (model prog w) sh (typeOf (.ref x)) (.ref C) := I.type
  have k2 : Looks (model prog w) sh (typeOf v) (.type T) := lv
  have k3 : Looks (model prog w) sh (fillsNumberSlot (.ref C) n1) true := fills_K XK hcd hmro c2
  have k4 : Looks (model prog w) sh (fillsNumberSlot (.type T) n1) fl := c9 ▸ ksp_fillsT XK c6 c7
  have k7 : Looks (model prog w) sh (numberSlotInPython (.type T) n1) false := Looks.of_pure rfl
  have nq : (Value.type T == Value.ref C) = false := Bool.eq_false_iff.mpr fun q => by cases beq_iff_eq.mp q
  simp only [binaryOp, oi]
  refine wpAny_holding (wpAny_bind ?_)
  unfold binaryOp1
  refine wpAny_bind (k2.at (wpAny_bind (k1.at (wpAny_bind (k4.at ?_)))))
  simp only [nq, Bool.false_eq_true, if_false]
  cases fl with
  | false =>
    ksp_lk
    refine wpAny_mono once (fun r s' y => ?_) fun _ _ e => e
    obtain ⟨v', rfl, hq⟩ := y
    ksp_lk
    exact hq
  | true =>
    have k5 : Looks (model prog w) sh (isSubtype (.ref C) (.type T)) false := looks_subIn XK (c8 rfl)
    have k9 := no rfl
    ksp_lk
    refine Looks.at k9 ?_
    ksp_lk
    refine wpAny_mono once (fun r s' y => ?_) fun _ _ e => e
    obtain ⟨v', rfl, hq⟩ := y
    ksp_lk
    exact hq
end
section
variable {X : Cx} {pins : List (Addr × Obj)} {σ : L2.St} {H : Hp} {st : Shared}
theorem od_type {v : V} {u : Value} {t : Dt} (inv : Inv X pins σ H st) (o : OdAt H v t) (r : RelV v u) : st.TypeIs u t.ty := by
  cases t with
  | sc s =>
    obtain rfl : v = s.v := o
    cases s with
    | non => cases (show u = Value.none from r); exact rfl
    | bl b => cases (show u = Value.bool b from r); exact rfl
    | int i => obtain ⟨t, rfl⟩ := (show ∃ t, u = Value.int i t from r); exact rfl
    | str x => obtain ⟨t, rfl⟩ := (show ∃ t, u = Value.str x t from r); exact rfl
  | tup l =>
    obtain ⟨a, rfl, e⟩ := o
    obtain rfl : u = Value.ref a := r
    obtain ⟨its, rv, ⟨ob, ho, hc, n, hd⟩, _⟩ := inv.tuple (SqT.of e)
    exact ⟨_, ho, hc⟩
  | lst l =>
    obtain ⟨a, rfl, e⟩ := o
    obtain rfl : u = Value.ref a := r
    obtain ⟨its, rv, ⟨ob, n, ho, hc, _, hd⟩, _⟩ := inv.list (SqL.of e)
    exact ⟨_, ho, hc⟩
  | dct l =>
    obtain ⟨a, rfl, e⟩ := o
    obtain rfl : u = Value.ref a := r
    obtain ⟨_, ns, vs, kv, ob, es, ep, ho, hex, hd, _, prs, _⟩ := dk_of inv.hok e
    exact ⟨_, ho, hex.1⟩
theorem type_looks {M : Model} {s : Shared} {u : Value} {T : String} (h : s.TypeIs u T) : PySem.W.Looks M s.heap (typeOf u) (.type T) := by
  intro A Q E s' k q
  refine wpAny_typeOf (T := T) ?_ q
  cases u with
  | ref b =>
    obtain ⟨o, e, c⟩ := h
    exact ⟨o, k _ _ e, c⟩
  | _ => exact h
end
section
variable {M : Model} {s : Shared} {x C dx : Addr}
open PySem.SeqAt PySem.MeetsSeq PySem.AutoSeq1
theorem int_and_no (i : Int) (t : Tok) : Meets (Builtin.«int.__and__» ⟨[.int i t, .ref x], []⟩) (fun _ R s => s.heap.get? x = some (PySem.W.instObj C dx) ∧ R (.ok (.ret .notImplemented)) s) :=
  .of_wp fun prog w A R s h => by obtain ⟨hp, g, d, tk, os⟩ := s; obtain ⟨hl, h⟩ := h; wp_walk using wpAny_loadPart' hl, wpAny_load hl; exact ⟨_, rfl, h⟩
theorem int_or_no (i : Int) (t : Tok) : Meets (Builtin.«int.__or__» ⟨[.int i t, .ref x], []⟩) (fun _ R s => s.heap.get? x = some (PySem.W.instObj C dx) ∧ R (.ok (.ret .notImplemented)) s) :=
  .of_wp fun prog w A R s h => by obtain ⟨hp, g, d, tk, os⟩ := s; obtain ⟨hl, h⟩ := h; wp_walk using wpAny_loadPart' hl, wpAny_load hl; exact ⟨_, rfl, h⟩
theorem int_xor_no (i : Int) (t : Tok) : Meets (Builtin.«int.__xor__» ⟨[.int i t, .ref x], []⟩) (fun _ R s => s.heap.get? x = some (PySem.W.instObj C dx) ∧ R (.ok (.ret .notImplemented)) s) :=
  .of_wp fun prog w A R s h => by obtain ⟨hp, g, d, tk, os⟩ := s; obtain ⟨hl, h⟩ := h; wp_walk using wpAny_loadPart' hl, wpAny_load hl; exact ⟨_, rfl, h⟩
theorem bool_and_no (b : Bool) : Meets (Builtin.«bool.__and__» ⟨[.bool b, .ref x], []⟩) (fun _ R s => s.heap.get? x = some (PySem.W.instObj C dx) ∧ R (.ok (.ret .notImplemented)) s) :=
  .of_wp fun prog w A R s h => by obtain ⟨hp, g, d, tk, os⟩ := s; obtain ⟨hl, h⟩ := h; wp_walk using wpAny_loadPart' hl, wpAny_load hl; exact ⟨_, rfl, h⟩
theorem bool_or_no (b : Bool) : Meets (Builtin.«bool.__or__» ⟨[.bool b, .ref x], []⟩) (fun _ R s => s.heap.get? x = some (PySem.W.instObj C dx) ∧ R (.ok (.ret .notImplemented)) s) :=
  .of_wp fun prog w A R s h => by obtain ⟨hp, g, d, tk, os⟩ := s; obtain ⟨hl, h⟩ := h; wp_walk using wpAny_loadPart' hl, wpAny_load hl; exact ⟨_, rfl, h⟩
theorem bool_xor_no (b : Bool) : Meets (Builtin.«bool.__xor__» ⟨[.bool b, .ref x], []⟩) (fun _ R s => s.heap.get? x = some (PySem.W.instObj C dx) ∧ R (.ok (.ret .notImplemented)) s) :=
  .of_wp fun prog w A R s h => by obtain ⟨hp, g, d, tk, os⟩ := s; obtain ⟨hl, h⟩ := h; wp_walk using wpAny_loadPart' hl, wpAny_load hl; exact ⟨_, rfl, h⟩
end
section
variable {prog : Program} {w : World} {M : Model} {s : Shared} {x l C dx : Addr}
open PySem.SeqAt PySem.MeetsSeq PySem.AutoSeq1
theorem dict_or_no (es : Array DictEntry) (n : Nat) (dd : Option Addr) (sl : Array (Option Value)) : MeetsIn prog w (Builtin.«dict.__or__» ⟨[.ref l, .ref x], []⟩) (fun _ R s => s.heap.get? l = some { cls := .type "dict", dict := dd, data := .dict es n, slots := sl } ∧ s.heap.get? x = some (PySem.W.instObj C dx) ∧ PySem.W.Looks (model prog w) s.heap (isSubtype (.ref C) (.type "dict")) false ∧ R (.ok (.ret .notImplemented)) s) :=
  .of_wp fun A R s h => by
    obtain ⟨hp, g, d, tk, os⟩ := s
    obtain ⟨hl, hx, hs, h⟩ := h
    have f1 : isSubtype (.type "dict") (.type "dict") = pure true := by rw [isSubtype_type]; kernel_rfl
    wp_walk using wpAny_loadPart' hl, wpAny_load hl, wpAny_loadPart' hx, wpAny_load hx, hs.here
    exact ⟨_, rfl, h⟩
end
section
variable {prog : Program} {w : World} {A : Around} {E : Value → Shared → Prop} {s : Shared} {x C dx : Addr} {Q : Option Value → Shared → Prop}
theorem try_no {u : Value} {nm T id : String} (slot : Slot T (PySem.dunder nm) id) (ty : s.TypeIs u T) (c : ∀ Z : Value → Shared → Prop, Z .notImplemented s → wpAny (model prog w) A (call (.builtin id) [u, .ref x]) Z E s) (q : Q none s) : wpAny (model prog w) A (tryMethod u (PySem.dunder nm) (.ref x)) Q E s :=
  wpAny_tryMethod_declines (T := T) (name := PySem.dunder nm) (id := id) ty slot (c _ ⟨rfl, q⟩)
theorem try_int {i : Int} {t : Tok} {nm : String} (hn : nm = "and" ∨ nm = "or" ∨ nm = "xor") (h : s.heap.get? x = some (PySem.W.instObj C dx)) (q : Q none s) : wpAny (model prog w) A (tryMethod (.int i t) (PySem.dunder nm) (.ref x)) Q E s := by
  rcases hn with rfl | rfl | rfl
  · exact try_no (nm := "and") (T := "int") (id := "int.__and__") F.slot_int_and (typeIs_int s i t) (fun Z z => call_meets F.slot_int_and (typeIs_int s i t) F.entry_int_and (F.args_int_and_2 _ _) (int_and_no i t) ⟨h, z⟩) q
  · exact try_no (nm := "or") (T := "int") (id := "int.__or__") F.slot_int_or (typeIs_int s i t) (fun Z z => call_meets F.slot_int_or (typeIs_int s i t) F.entry_int_or (F.args_int_or_2 _ _) (int_or_no i t) ⟨h, z⟩) q
  · exact try_no (nm := "xor") (T := "int") (id := "int.__xor__") F.slot_int_xor (typeIs_int s i t) (fun Z z => call_meets F.slot_int_xor (typeIs_int s i t) F.entry_int_xor (F.args_int_xor_2 _ _) (int_xor_no i t) ⟨h, z⟩) q
theorem try_bool {b : Bool} {nm : String} (hn : nm = "and" ∨ nm = "or" ∨ nm = "xor") (h : s.heap.get? x = some (PySem.W.instObj C dx)) (q : Q none s) : wpAny (model prog w) A (tryMethod (.bool b) (PySem.dunder nm) (.ref x)) Q E s := by
  have ty : s.TypeIs (.bool b) "bool" := rfl
  rcases hn with rfl | rfl | rfl
  · exact try_no (nm := "and") (T := "bool") (id := "bool.__and__") F.slot_bool_and ty (fun Z z => call_meets F.slot_bool_and ty F.entry_bool_and (F.args_bool_and_2 _ _) (bool_and_no b) ⟨h, z⟩) q
  · exact try_no (nm := "or") (T := "bool") (id := "bool.__or__") F.slot_bool_or ty (fun Z z => call_meets F.slot_bool_or ty F.entry_bool_or (F.args_bool_or_2 _ _) (bool_or_no b) ⟨h, z⟩) q
  · exact try_no (nm := "xor") (T := "bool") (id := "bool.__xor__") F.slot_bool_xor ty (fun Z z => call_meets F.slot_bool_xor ty F.entry_bool_xor (F.args_bool_xor_2 _ _) (bool_xor_no b) ⟨h, z⟩) q
theorem try_dict {l : Addr} {es : Array DictEntry} {n : Nat} {dd : Option Addr} {sl : Array (Option Value)} (hl : s.heap.get? l = some { cls := .type "dict", dict := dd, data := .dict es n, slots := sl }) (h : s.heap.get? x = some (PySem.W.instObj C dx)) (ls : PySem.W.Looks (model prog w) s.heap (isSubtype (.ref C) (.type "dict")) false) (q : Q none s) :
    wpAny (model prog w) A (tryMethod (.ref l) (PySem.dunder "or") (.ref x)) Q E s := by
  have ty : s.TypeIs (.ref l) "dict" := ⟨_, hl, rfl⟩
  exact try_no (nm := "or") (T := "dict") (id := "dict.__or__") F.slot_dict_or ty (fun Z z => call_meetsIn F.slot_dict_or ty F.entry_dict_or (F.args_dict_or_2 _ _) (dict_or_no es n dd sl) ⟨hl, h, ls, z⟩) q
end
/-! ### the rules -/
theorem ty_in (t : Dt) : t.ty ∈ ["NoneType", "bool", "int", "str", "tuple", "list", "dict"] := by
  cases t with
  | sc s => cases s <;> simp [Dt.ty]
  | tup => simp [Dt.ty]
  | lst => simp [Dt.ty]
  | dct => simp [Dt.ty]
theorem find_ty (K : PySem.W.Frag) {T : String} (h : T ∈ ["NoneType", "bool", "int", "str", "tuple", "list", "dict"]) (n : Str) (hn : n ∈ (["__and__", "__rand__", "__or__", "__ror__", "__xor__", "__rxor__", "__lshift__", "__rlshift__", "__rshift__", "__rrshift__"] : List Str)) : ∃ r, PySem.W.findIn K (.type T) n = some r := by
  have z : ∀ T ∈ ["NoneType", "bool", "int", "str", "tuple", "list", "dict"], ∀ n ∈ (["__and__", "__rand__", "__or__", "__ror__", "__xor__", "__rxor__", "__lshift__", "__rlshift__", "__rshift__", "__rrshift__"] : List Str), (PySem.fastLookup T n).isSome = true := by decide +kernel
  exact Option.isSome_iff_exists.mp (z T h n hn)
theorem sub_ty (K : PySem.W.Frag) {T : String} (h : T ∈ ["NoneType", "bool", "int", "str", "tuple", "list", "dict"]) (C : Addr) : PySem.W.subIn K (.type T) (.ref C) = some false := by
  simp only [List.mem_cons, List.not_mem_nil, or_false] at h
  rcases h with rfl | rfl | rfl | rfl | rfl | rfl | rfl <;> rfl
section
variable {X : Cx}
def ops3 : List Operator := [.BitAnd, .BitOr, .BitXor]
def ops5 : List Operator := [.BitAnd, .BitOr, .BitXor, .LShift, .RShift]
structure OwnBD (P : Program) (w : World) (K : PySem.W.Frag) (mg : Str → Option Value) (base : Heap) (CX : CXT) (k : Nat) (C : Addr) (op : Operator) (ps : List Str) (sp : Sp) : Prop where
  ex : ∃ (g : Addr) (fd : FuncData) (rc : Option Value), op ∈ ops5 ∧ PySem.W.selfFirst K C = true ∧ PySem.W.findIn K (.ref C) (PySem.dunder op.info.2) = some (some (.ref g)) ∧ PySem.W.isFn K (.ref g) = true ∧ PySem.W.findIn K (.ref C) (dunderR op.info.2) = some rc ∧ (rc = none ∨ ∃ g : Addr, rc = some (.ref g)) ∧ FnOk P w K mg base CX k g fd ps sp ∧ Binds K fd ps []
structure OwnBR (P : Program) (w : World) (K : PySem.W.Frag) (mg : Str → Option Value) (base : Heap) (CX : CXT) (k : Nat) (C : Addr) (op : Operator) (ps : List Str) (sp : Sp) : Prop where
  ex : ∃ (g g2 : Addr) (fd : FuncData), op ∈ ops3 ∧ PySem.W.selfFirst K C = true ∧ PySem.W.findIn K (.ref C) (PySem.dunder op.info.2) = some (some (.ref g2)) ∧ PySem.W.isFn K (.ref g) = true ∧ PySem.W.findIn K (.ref C) (dunderR op.info.2) = some (some (.ref g)) ∧
    PySem.W.subIn K (.ref C) (.type "int") = some false ∧ PySem.W.subIn K (.ref C) (.type "bool") = some false ∧ PySem.W.subIn K (.ref C) (.type "dict") = some false ∧ FnOk P w K mg base CX k g fd ps sp ∧ Binds K fd ps []
theorem find5 (K : PySem.W.Frag) {T : String} (h : T ∈ ["NoneType", "bool", "int", "str", "tuple", "list", "dict"]) {op : Operator} (ho : op ∈ ops5) : (∃ r, PySem.W.findIn K (.type T) (PySem.dunder op.info.2) = some r) ∧ ∃ r, PySem.W.findIn K (.type T) (dunderR op.info.2) = some r := by
  have m : ∀ op ∈ ops5, PySem.dunder op.info.2 ∈ (["__and__", "__rand__", "__or__", "__ror__", "__xor__", "__rxor__", "__lshift__", "__rlshift__", "__rshift__", "__rrshift__"] : List Str) ∧ dunderR op.info.2 ∈ (["__and__", "__rand__", "__or__", "__ror__", "__xor__", "__rxor__", "__lshift__", "__rlshift__", "__rshift__", "__rrshift__"] : List Str) := by
    intro op ho
    simp only [ops5, List.mem_cons, List.not_mem_nil, or_false] at ho
    rcases ho with rfl | rfl | rfl | rfl | rfl <;> decide +kernel
  exact ⟨find_ty K h _ (m op ho).1, find_ty K h _ (m op ho).2⟩
def rBinD (C : Addr) (sp : Sp) (E : XK) : R2 := fun x y H Q => ∃ (a dx : Addr) (fs : List (Str × V)) (t : Dt), x = .ref a ∧ H a = some (.ins C dx fs) ∧ OdAt H y t ∧ sp [x, y] H Q E
def rBinR (C : Addr) (sp : Sp) (E : XK) : R2 := fun x y H Q => ∃ (a dx : Addr) (fs : List (Str × V)) (t : Dt), y = .ref a ∧ H a = some (.ins C dx fs) ∧ OdAt H x t ∧ sp [y, x] H Q E
theorem op_binD {CX : CXT} {E : XK} {C : Addr} {op : Operator} {ps : List Str} {sp : Sp} {n : Nat} (c : OwnBD X.prog X.w X.K X.mg X.base CX n C op ps sp) (room : Room n X.A) (pass : Passes CX X E) : OpR X (binaryOp op) (rBinD C sp E) := by
  obtain ⟨g, fd, rc, ho, c1, c2, c3, c4, c5, F, bind⟩ := c.ex
  intro pins st σ h x y v u Z inv rx ry pre
  obtain ⟨a, dx, fs, t, rfl, ha, od, z⟩ := pre
  obtain rfl : v = Value.ref a := rx
  obtain ⟨oo, J⟩ := inst_of inv ha
  obtain ⟨m, hF⟩ := inv.fr
  obtain ⟨⟨fo, e1⟩, ro, e2⟩ := find5 X.K (ty_in t) ho
  refine bin_left hF inv.ok.mod.kin J (type_looks (od_type inv od ry)) c1 c2 c3 c4 c5 e1 e2 (sub_ty X.K (ty_in t) C) ?_
  refine wpAny_mono (run_fn (us := [.ref a, u]) (vs := [.ref a, y]) F room bind .nil pass inv (.cons rfl (.cons ry .nil)) z) (fun w s2 r => ?_) fun _ _ z => z
  obtain ⟨z', h2, inv2, rz, qz⟩ := r
  exact SlX.cmpback rz ⟨z', h2, inv2, rz, qz⟩
theorem on3 {op : Operator} (ho : op ∈ ops3) : op.info.2 = "and" ∨ op.info.2 = "or" ∨ op.info.2 = "xor" := by
  simp only [ops3, List.mem_cons, List.not_mem_nil, or_false] at ho
  rcases ho with rfl | rfl | rfl
  · exact .inl rfl
  · exact .inr (.inl rfl)
  · exact .inr (.inr rfl)
/-- the three operations, by types of data that know none of them, or decline -/
theorem declines {P : Program} {w : World} {pins : List (Addr × Obj)} {σ : L2.St} {H : Hp} {st : Shared} {K : PySem.W.Frag} {v : V} {u : Value} {t : Dt} {a C dx : Addr} {oo : Option Obj} {op : Operator} {fo ro : Option Value} (ho : op ∈ ops3) (inv : Inv X pins σ H st) (XK : K.In st.heap) (od : OdAt H v t) (r : RelV v u) (J : PySem.W.InstAt st.heap a (PySem.W.instObj C dx) C oo)
    (s3 : PySem.W.subIn K (.ref C) (.type "dict") = some false)
    (e1 : PySem.W.findIn K (.type t.ty) (PySem.dunder op.info.2) = some fo) (e2 : PySem.W.findIn K (.type t.ty) (dunderR op.info.2) = some ro) (fl : ((fo.isSome && !isSeqSlot fo) || (ro.isSome && !isSeqSlot ro)) = true) :
    (t.ty = "int" ∨ t.ty = "bool" ∨ t.ty = "dict") ∧ PySem.W.Looks (model P w) st.heap (tryMethod u (PySem.dunder op.info.2) (.ref a)) none := by
  have hx : st.heap.get? a = some (PySem.W.instObj C dx) := J.at_
  have none4 : ∀ T ∈ ["NoneType", "str", "tuple", "list"], ∀ n ∈ (["__and__", "__rand__", "__or__", "__ror__", "__xor__", "__rxor__"] : List Str), (PySem.fastLookup T n).map Option.isNone = some true := by decide +kernel
  have noneD : ∀ n ∈ (["__and__", "__rand__", "__xor__", "__rxor__"] : List Str), (PySem.fastLookup "dict" n).map Option.isNone = some true := by decide +kernel
  have d1 : PySem.dunder Operator.BitAnd.info.2 = "__and__" ∧ dunderR Operator.BitAnd.info.2 = "__rand__" := by decide +kernel
  have d2 : PySem.dunder Operator.BitOr.info.2 = "__or__" ∧ dunderR Operator.BitOr.info.2 = "__ror__" := by decide +kernel
  have d3 : PySem.dunder Operator.BitXor.info.2 = "__xor__" ∧ dunderR Operator.BitXor.info.2 = "__rxor__" := by decide +kernel
  have lk : ∀ (T : String) (n : Str) (r : Option Value), PySem.W.findIn K (.type T) n = some r → PySem.fastLookup T n = some r := fun _ _ _ e => e
  replace e1 := lk _ _ _ e1
  replace e2 := lk _ _ _ e2
  have clash : ∀ (T : String) (n1 n2 : Str), (PySem.fastLookup T n1).map Option.isNone = some true → (PySem.fastLookup T n2).map Option.isNone = some true → PySem.fastLookup T n1 = some fo → PySem.fastLookup T n2 = some ro → False := by
    intro T n1 n2 y1 y2 z1 z2
    rw [z1] at y1
    rw [z2] at y2
    cases fo with
    | some _ => cases y1
    | none =>
      cases ro with
      | some _ => cases y2
      | none => cases fl
  have four : t.ty ∈ ["NoneType", "str", "tuple", "list"] → False := by
    intro ht
    simp only [ops3, List.mem_cons, List.not_mem_nil, or_false] at ho
    rcases ho with rfl | rfl | rfl
    · rw [d1.1] at e1
      rw [d1.2] at e2
      exact clash _ _ _ (none4 _ ht "__and__" (by simp)) (none4 _ ht "__rand__" (by simp)) e1 e2
    · rw [d2.1] at e1
      rw [d2.2] at e2
      exact clash _ _ _ (none4 _ ht "__or__" (by simp)) (none4 _ ht "__ror__" (by simp)) e1 e2
    · rw [d3.1] at e1
      rw [d3.2] at e2
      exact clash _ _ _ (none4 _ ht "__xor__" (by simp)) (none4 _ ht "__rxor__" (by simp)) e1 e2
  cases t with
  | sc sc0 =>
    obtain rfl : v = sc0.v := od
    cases sc0 with
    | non => exact (four (by simp [Dt.ty])).elim
    | str => exact (four (by simp [Dt.ty])).elim
    | int i =>
      obtain ⟨tk, rfl⟩ := (show ∃ t, u = Value.int i t from r)
      refine ⟨.inl rfl, fun A Q E s' k q => ?_⟩
      exact try_int (C := C) (dx := dx) (on3 ho) (k _ _ hx) q
    | bl b =>
      obtain rfl := (show u = Value.bool b from r)
      refine ⟨.inr (.inl rfl), fun A Q E s' k q => ?_⟩
      exact try_bool (C := C) (dx := dx) (on3 ho) (k _ _ hx) q
  | tup l => exact (four (by simp [Dt.ty])).elim
  | lst l => exact (four (by simp [Dt.ty])).elim
  | dct l =>
    obtain ⟨b, rfl, e⟩ := od
    obtain rfl : u = Value.ref b := r
    obtain ⟨_, ns, vs, kv, ob, es, ep, hb, hex, hd, _, prs, _⟩ := dk_of inv.hok e
    refine ⟨.inr (.inr rfl), fun A Q E s' k q => ?_⟩
    simp only [ops3, List.mem_cons, List.not_mem_nil, or_false] at ho
    rcases ho with rfl | rfl | rfl
    · rw [d1.1] at e1
      rw [d1.2] at e2
      exact (clash "dict" _ _ (noneD "__and__" (by simp)) (noneD "__rand__" (by simp)) e1 e2).elim
    · obtain ⟨cls, dd, data, sl⟩ := ob
      have hc := hex.1
      simp only at hc hd
      subst hc hd
      exact try_dict (C := C) (dx := dx) (k _ _ hb) (k _ _ hx) ((PySem.W.looks_subIn XK s3).keeps k) q
    · rw [d3.1] at e1
      rw [d3.2] at e2
      exact (clash "dict" _ _ (noneD "__xor__" (by simp)) (noneD "__rxor__" (by simp)) e1 e2).elim
theorem op_binR {CX : CXT} {E : XK} {C : Addr} {op : Operator} {ps : List Str} {sp : Sp} {n : Nat} (c : OwnBR X.prog X.w X.K X.mg X.base CX n C op ps sp) (room : Room n X.A) (pass : Passes CX X E) : OpR X (binaryOp op) (rBinR C sp E) := by
  obtain ⟨g, g2, fd, ho, c1, c2, c3, c4, s1, s2, s3, F, bind⟩ := c.ex
  intro pins st σ h x y v u Z inv rx ry pre
  obtain ⟨a, dx, fs, t, rfl, ha, od, z⟩ := pre
  obtain rfl : u = Value.ref a := ry
  obtain ⟨oo, J⟩ := inst_of inv ha
  obtain ⟨m, hF⟩ := inv.fr
  have ho5 : op ∈ ops5 := by
    simp only [ops3, ops5, List.mem_cons, List.not_mem_nil, or_false] at ho ⊢
    rcases ho with h | h | h <;> simp [h]
  obtain ⟨⟨fo, e1⟩, ro, e2⟩ := find5 X.K (ty_in t) ho5
  have dc := declines (P := X.prog) (w := X.w) ho inv inv.kIn od rx J s3 e1 e2
  refine bin_right hF inv.ok.mod.kin J (type_looks (od_type inv od rx)) c1 c2 c3 c4 e1 e2 rfl (fun y => ?_) (fun y => (dc y).2) ?_
  · rcases (dc y).1 with e | e | e <;> rw [e] <;> assumption
  refine wpAny_mono (run_fn (us := [.ref a, v]) (vs := [.ref a, x]) F room bind .nil pass inv (.cons rfl (.cons rx .nil)) z) (fun w s2 r => ?_) fun _ _ z => z
  obtain ⟨z', h2, inv2, rz, qz⟩ := r
  exact SlX.cmpback rz ⟨z', h2, inv2, rz, qz⟩
end
end KR

/-! KP: repr of a list of scalars and of own objects that have a __repr__ of their own. -/
namespace KP
open PySem PySem.Spec PyProof.Rows L2 KB KG KO KY
section
variable {prog : Program} {w : World} {A : Around} {E : Value → Shared → Prop} {s : Shared} {K : PySem.W.Frag} {x C L f : Addr} {hb : Heap} {m : Str → Option Value} {ox : Obj} {od : Option Obj}
open PySem.W in
theorem boundBy_K {M : Model} {last : Value → List Value → Sem Value} {name : Str} {Z : Option Value → Shared → Prop} (XK : K.In s.heap) (J : InstAt s.heap x ox C od) (c1 : findIn K (.ref C) name = some (some (.ref f))) (c2 : isFn K (.ref f) = true)
    (go : wpAny M A (last (.ref f) [.ref x]) (fun v => Z (some v)) E s) : wpAny M A (callSpecialIfBoundBy? last (.ref x) name) Z E s := by
  simp only [callSpecialIfBoundBy?, bindSpecialIfBound?]
  refine wpAny_holding (wpAny_bind (wpAny_bind (wpAny_bind (J.type.here ((looks_findIn XK c1).here ?_)))))
  refine wpAny_bind (wpAny_askSetting (wpAny_ite ?_))
  have last1 : wpAny M A (last (.ref f) [.ref x] >>= fun v => pure (some v)) Z E s := wpAny_bind (wpAny_mono go (fun _ _ y => wpAny_pure y) fun _ _ y => y)
  split
  · exact wpAny_bind ((bind_fn XK _ (beq_iff_eq.mp c2)).here (wpAny_pure (by exact last1)))
  · exact wpAny_tryCatch (wpAny_bind ((bind_fn XK _ (beq_iff_eq.mp c2)).here (wpAny_pure (by exact last1))))
open PySem.W in
theorem reprUnder_K {b : Nat} {Z : Str → Shared → Prop} (hz : b ≤ sizeLine) (hu : A.units < cLine) (XK : K.In s.heap) (J : InstAt s.heap x ox C od) (c1 : findIn K (.ref C) "__repr__" = some (some (.ref f))) (c2 : isFn K (.ref f) = true)
    (go : wpAny (model prog w) A (call (.ref f) [.ref x]) (fun v s' => ∃ t u, v = .str t u ∧ Z t s') E s) : wpAny (model prog w) A (pyReprUnder b (.ref x)) Z E s := by
  refine wpAny_pyReprUnder_ref hz ?_
  unfold pyReprObjUnder pyReprObjBy
  refine wpAny_bind (wpAny_cRoomFor hu ?_)
  refine wpAny_bind (wpAny_bind (J.type.here ((looks_findIn XK c1).here ?_)))
  show wpAny _ _ (if (some (Value.ref f)).isNone = true then _ else _) _ _ _
  rw [if_neg (by simp)]
  refine wpAny_bind (m := callSpecialIfBoundBy? _ (.ref x) (Str.ofString "__repr__")) (boundBy_K XK J c1 c2 ?_)
  refine wpAny_mono go (fun v s' y => ?_) fun _ _ y => y
  obtain ⟨t, u, rfl, q⟩ := y
  exact wpAny_bind (wpAny_isInstance (T := "str") (b := true) rfl isSubtype_str_str (wpAny_pure ⟨_, _, rfl, q⟩))
end
/-- an item and its text -/
def ItOk (P : Program) (w : World) (C : Addr) (sp : Sp) (H : Hp) (v : V) (t : Str) : Prop :=
  (∀ u, RelV v u → ReprIs P w u t) ∨ ∃ (a dx : Addr) (fs : List (Str × V)), v = .ref a ∧ H a = some (.ins C dx fs) ∧ ∀ H', Same H H' → ∀ Q : VK, Q (.str t) H' → sp [.ref a] H' Q E0
section
variable {X : Cx}
theorem frames_loop (A : Around) (args : Args) : (A.under (.builtin "list.__repr__.loop" args)).frames = A.frames ∧ (A.under (.builtin "list.__repr__.loop" args)).handled = A.handled ∧ (A.under (.builtin "list.__repr__.loop" args)).depth ≤ A.depth + 1 := by
  refine ⟨?_, ?_, ?_⟩ <;> first | rfl | simp [Around.under, Code.weight, Code.isCreation, Code.isGuard, Code.isCaller, Code.frames, Code.isFrame, guardIds]
theorem strs_done : ∀ (ts : List Str) (us : List Value), Vals (ts.map V.str) us → ∃ dn : List (Str × Tok), us = strValues dn ∧ dn.map (·.1) = ts
  | [], us, r => by cases r; exact ⟨[], rfl, rfl⟩
  | t :: ts, us, r => by
    cases r with
    | cons r1 r2 =>
      obtain ⟨tk, rfl⟩ := r1
      obtain ⟨dn, rfl, e⟩ := strs_done ts _ r2
      exact ⟨(t, tk) :: dn, rfl, by rw [List.map_cons, e]⟩
theorem vals_at : ∀ {xs : List V} {us : List Value}, Vals xs us → ∀ (i : Nat) (v : V), xs[i]? = some v → ∃ u, us[i]? = some u ∧ RelV v u
  | _, _, .nil, i, v, e => by simp at e
  | _, _, .cons r1 r2, 0, v, e => ⟨_, rfl, by cases e; exact r1⟩
  | _, _, .cons r1 r2, i + 1, v, e => vals_at r2 i v e
theorem loop {C : Addr} {sp : Sp} {ps : List Str} {n : Nat} (c : OwnM X.prog X.w X.K X.mg X.base n C "__repr__" ps sp) {A : Around} (hfr : A.frames = X.A.frames) (hh : A.handled = none) (hd : A.depth + 1 + 3 * n + 5 < recursionLimit) (hu : A.units + 1 + 16 * n + 200 < cLine)
    {p P : Addr} {vs : List V} {ts : List Str} {H0 : Hp} (len : ts.length = vs.length) (sz : (listText ts).length ≤ sizeLine) (its : ∀ (i : Nat) (v : V) (t : Str), vs[i]? = some v → ts[i]? = some t → ItOk X.prog X.w C sp H0 v t) (nP : H0 P = none) (hp : H0 p = some (.lst vs)) {pins : List (Addr × Obj)} {σ : L2.St} {R : Result → Shared → Prop}
    (last : ∀ H' s' u, Same H0 H' → Inv X pins σ H' s' → R (.ok (.ret (.str (listText ts) u))) s') :
    ∀ (k i : Nat) (s : Shared) (H : Hp), vs.length - i = k → i ≤ vs.length → Same H0 H → Inv X pins σ H s → H P = some (.lst ((ts.take i).map V.str)) →
      codeAny (model X.prog X.w) A (.builtin "list.__repr__.loop" ⟨[.ref p, rawInt i, .ref P, rawInt ((piled (ts.take i) : Nat) : Int)], []⟩) R s := by
  obtain ⟨g, fd, hs, hf, F, bind⟩ := c.ex
  have tl := textFrom_len ts 0 "["
  have sl : (listText ts).length = (textFrom 0 "[" ts).length + 1 := by
    show (textFrom 0 "[" ts ++ "]").length = _
    rw [strLen_append]; rfl
  have s2 : ∀ t ∈ ts, t.length ≤ sizeLine := fun t ht => by
    have := tl.2.1 t ht
    omega
  have pl := piled_le_listText ts
  intro k
  induction k with
  | zero =>
    intro i s H hk hi sm inv eP
    have hin : i = vs.length := by omega
    obtain ⟨us, rv, ⟨ob, nb, ho, hc, _, hdt⟩, _⟩ := inv.list (SqL.of (sm _ _ hp))
    obtain ⟨z2, us2, n2, r2, l2, e2⟩ := inv.lstM eP
    have lu := rv.length
    refine codeAny_builtin PySem.F.entry_list_repr_loop ?_
    show wpAny _ _ (Builtin.«list.__repr__.loop» ⟨[.ref p, .int i 0, .ref P, .int ((piled (ts.take i) : Nat) : Int) 0], []⟩) _ _ s
    rw [repr_loop_tree]
    refine wpAny_bind (wpAny_listItems ho hdt ?_)
    have hno : us.toArray[(i : Int).toNat]? = none := by simp [hin, lu]
    simp only [hno]
    unfold reprEnd
    refine wpAny_bind (wpAny_listItems e2 rfl ?_)
    rw [hin, ← len, List.take_length] at r2
    obtain ⟨dn, rfl, ed⟩ := strs_done ts us2 r2
    rw [repr_fold, ed]
    refine wpAny_bind (wpAny_pure ?_)
    refine wpAny_bind (wpAny_mkStr (wpAny_pure ?_) sz)
    exact last H _ _ sm (inv.tok _)
  | succ k ih =>
    intro i s H hk hi sm inv eP
    have hlt : i < vs.length := by omega
    obtain ⟨us, rv, ⟨ob, nb, ho, hc, _, hdt⟩, _⟩ := inv.list (SqL.of (sm _ _ hp))
    have lu := rv.length
    have ev : vs[i]? = some vs[i] := List.getElem?_eq_getElem hlt
    have et : ts[i]? = some (ts[i]'(by omega)) := List.getElem?_eq_getElem (by omega)
    obtain ⟨u, eu, ru⟩ := vals_at rv i _ ev
    have it := its i _ _ ev et
    generalize ts[i]'(by omega) = t at et it
    generalize vs[i] = v at ev ru it
    have p1 := piled_take_succ et
    have p2 := piled_take_le ts (i + 1)
    refine codeAny_builtin PySem.F.entry_list_repr_loop ?_
    show wpAny _ _ (Builtin.«list.__repr__.loop» ⟨[.ref p, .int i 0, .ref P, .int ((piled (ts.take i) : Nat) : Int) 0], []⟩) _ _ s
    rw [repr_loop_tree]
    refine wpAny_bind (wpAny_listItems ho hdt ?_)
    have hso : us.toArray[(i : Int).toNat]? = some u := by simpa using eu
    simp only [hso]
    rw [Int.toNat_natCast]
    have rest : ∀ s', Inv X pins σ H s' → wpAny (model X.prog X.w) (A.under (.builtin "list.__repr__.loop" ⟨[.ref p, rawInt i, .ref P, rawInt ((piled (ts.take i) : Nat) : Int)], []⟩)) (do
        let r ← mkStr t
        Builtin.List.listUpdate (.ref P) (·.push r)
        again (.builtin "list.__repr__.loop" ⟨[.ref p, rawInt (i + 1), .ref P, rawInt ((piled (ts.take i) + (t.length + 2) : Nat) : Int)], []⟩))
        (fun fin s' => match fin with | .done f => R (.ok f) s' | .again c' => c'.quiet = true ∧ codeAny (model X.prog X.w) A c' R s') (fun e s' => R (.error e) s') s' := by
      intro s' inv'
      obtain ⟨z2, us2, n2, r2, l2, e2⟩ := inv'.lstM eP
      have l3 := r2.length
      have l4 : ((ts.take i).map V.str).length ≤ i := by simp; omega
      have l5 : i < sizeLine := by
        have := tl.1
        rw [if_neg (Nat.lt_irrefl 0)] at this
        omega
      refine wpAny_bind (wpAny_mkStr ?_ (s2 t (List.mem_of_getElem? et)))
      refine wpAny_bind ?_
      show wpAny _ _ (updateSeq P _) _ _ _
      refine wpAny_updateSeq e2 rfl (wpAny_pure ⟨PySem.F.quiet_list_repr_loop _, ?_⟩) (by rw [List.size_toArray]; omega)
      have a1 : ((i : Int) + 1) = ((i + 1 : Nat) : Int) := by omega
      have a2 : piled (ts.take i) + (t.length + 2) = piled (ts.take (i + 1)) := by omega
      rw [a1, a2]
      refine ih (i + 1) _ (upd H P (.lst ((ts.take (i + 1)).map V.str))) (by omega) hlt (same_mut sm nP) ?_ upd_same
      refine inv'.lset (its' := us2 ++ [.str t s'.toks]) eP e2 (by simp) ?_ (by simp; omega)
      rw [List.take_add_one, et, List.map_append]
      exact r2.append (.cons ⟨_, rfl⟩ .nil)
    rcases it with it | ⟨a, dx, fs, rfl, ha, it⟩
    · refine wpAny_bind (wpAny_holding (it u ru (piled (ts.take i) + 1) (by omega) _ _ _ _ fun tk => ?_))
      exact rest _ (inv.tok _)
    · obtain rfl : u = Value.ref a := ru
      obtain ⟨oo, J⟩ := inst_of inv (sm _ _ ha)
      have fl := frames_loop A ⟨[.ref p, rawInt i, .ref P, rawInt ((piled (ts.take i) : Nat) : Int)], []⟩
      have ul := units_under_list_loop A ⟨[.ref p, rawInt i, .ref P, rawInt ((piled (ts.take i) : Nat) : Int)], []⟩
      refine wpAny_bind (wpAny_holding (reprUnder_K (by omega) (by rw [ul]; omega) inv.kIn J hs hf ?_))
      have e0 := inv.env0
      refine wpAny_mono (run0 (E' := fun e s' => R (.error e) s') (xs := [.ref a]) F ⟨by rw [fl.2.1]; exact hh, by have := fl.2.2; omega, by rw [ul]; omega⟩ ⟨by rw [fl.1, hfr]; exact e0.frames, e0.mod, e0.bs, e0.bsz, e0.funs, e0.frf, e0.hok, e0.bare⟩ bind inv (.cons rfl .nil) (it H sm (fun v' H' => v' = .str t ∧ H' = H) ⟨rfl, rfl⟩)) (fun v' st y => ?_) fun _ _ y => y
      obtain ⟨w', H', inv2, rw', e1, e2⟩ := y
      subst e1 e2
      obtain ⟨tk, rfl⟩ := (show ∃ tk, v' = Value.str t tk from rw')
      exact ⟨t, tk, rfl, rest _ inv2⟩
def rReprL (P : Program) (w : World) (C : Addr) (sp : Sp) : List V → Hp → VK → Prop := fun xs H Q => ∃ (p : Addr) (vs : List V) (ts : List Str), xs = [.ref p] ∧ H p = some (.lst vs) ∧ vs ≠ [] ∧ ts.length = vs.length ∧ (listText ts).length ≤ sizeLine ∧
  (∀ (i : Nat) (v : V) (t : Str), vs[i]? = some v → ts[i]? = some t → ItOk P w C sp H v t) ∧ ∀ H', Same H H' → Q (.str (listText ts)) H'
theorem call_reprL {C : Addr} {sp : Sp} {ps : List Str} {n : Nat} (c : OwnM X.prog X.w X.K X.mg X.base n C "__repr__" ps sp) (fr : Free X.A) (room : Room (n + 1) X.A) : CallR X (.builtin "repr") (rReprL X.prog X.w C sp) := by
  intro pins st σ h xs us Z inv rel pre
  obtain ⟨p, vs, ts, rfl, hp, ne, len, sz, its, z⟩ := pre
  obtain ⟨u, rfl, rv⟩ := vals_one rel
  obtain rfl : u = Value.ref p := rv
  obtain ⟨us, rl, ⟨ob, nb, ho, hc, hsl, hd⟩, _⟩ := inv.list (SqL.of hp)
  have ty : st.TypeIs (.ref p) "list" := ⟨_, ho, hc⟩
  have un := room.un
  have dp := room.dp
  refine KG.repr_slot (by omega) ty PySem.F.slot_list_repr.toG ?_
  refine wpAny_callSpecialIfBound?_slot (name := Str.ofString "__repr__") ty PySem.F.slot_list_repr ?_
  cases us with
  | nil =>
    cases rl
    exact absurd rfl ne
  | cons u1 us =>
    refine wpAny_call (codeAny_call_builtin PySem.F.slot_list_repr.plain PySem.F.entry_list_repr (PySem.F.slot_list_repr.check _ _ _ _ _ _ _ _ ty (PySem.F.args_list_repr_1 _) ?_))
    refine wpAny_list_repr_head (A := X.A.in1.in1) (g := []) fr (fun v rest kw m => absurd m List.not_mem_nil) ho hd ?_
    refine wpAny_bind (m := newList []) (wpAny_newObj_type ?_)
    refine wpAny_pure ⟨PySem.F.quiet_list_repr_loop _, ?_⟩
    have fresh : h st.heap.objs.size = none := inv.hok.fresh (Nat.le_refl _)
    refine loop c (A := X.A.in1) (pins := pins) (σ := σ) rfl room.hd (show X.A.depth + 1 + 3 * n + 5 < _ by omega) (show X.A.units + 1 + 1 + 16 * n + 200 < _ by omega) (P := st.heap.objs.size) len sz its fresh hp (fun H' s' u sm inv' => ?_) _ 0 _ (upd h st.heap.objs.size (.lst [])) rfl (Nat.zero_le _) (same_new fresh) ?_ upd_same
    · exact ⟨_, _, rfl, .str (listText ts), H', inv', ⟨u, rfl⟩, z H' sm⟩
    · exact inv.lnew (its := []) .nil (Nat.zero_le _)
/-- one of two ways -/
theorem call_or {f : Value} {r1 r2 : List V → Hp → VK → Prop} (c1 : CallR X f r1) (c2 : CallR X f r2) : CallR X f (fun xs H Q => r1 xs H Q ∨ r2 xs H Q) := by
  intro pins st σ h xs us Z inv rel pre
  rcases pre with pre | pre
  · exact c1 pins st σ h xs us Z inv rel pre
  · exact c2 pins st σ h xs us Z inv rel pre
end
end KP
/-! ### classmethods; cls(..) -/
namespace KP
open PySem PySem.Spec PyProof.Rows L2 KB KG KO KY
section
variable {X : Cx}
structure CalleeC (P : Program) (w : World) (K : PySem.W.Frag) (mg : Str → Option Value) (base : Heap) (CX : CXT) (k : Nat) (C : Addr) (m : Str) (sp : Sp) : Prop where
  ex : ∃ (mc : Value) (p g : Addr), ClX.CRead K C mc ∧ ClX.CMet K C mc m p g ∧ FnR P w K mg base CX k g sp
theorem pe_cmethC {pl : Sem Bool} {CX : CXT} {k : Nat} {C : Addr} {m : Str} {sp : Sp} {E : XK} {o e : Expr} {es : List Expr} {apos pos : Pos} {ta : TE} {t : TA} (c : CalleeC X.prog X.w X.K X.mg X.base CX k C m sp) (ho : PE X o ta) (room : Room k X.A) (pass : Passes CX X E) (ha : PA X (e :: es) t)
    (d1 : starEach (e :: es) X.env = (false, eval e X.env) :: starEach es X.env := by rfl) (d2 : (backTo pos (starEach es X.env)).any (·.1) = false := by rfl)
    (d3 : eval (.Call (.Attribute o m apos) (e :: es) [] pos) X.env = (do
      let ov ← eval o X.env
      standAt apos.atName
      let (f, first) ← holding [ov] (getMethod ov m pl)
      callWith pos f first (backTo pos (starEach (e :: es) X.env)) (backToKw pos (keywordEach [] X.env))) := by rfl) :
    PE X (.Call (.Attribute o m apos) (e :: es) [] pos) (ClX.tCMeth C sp E ta t) := by
  obtain ⟨mc, p, g, r, cm, F⟩ := c.ex
  exact ClX.pe_cmeth ho r cm F room pass ha d1 d2 d3
def tMakeL (C : Addr) (sp : Sp) (E : XK) (tf : TE) (t : TA) : TE := fun σ H Q => tf σ H fun v H1 => v = .ref C ∧ tMake C sp [] E t σ H1 Q
theorem pe_makeL {CX : CXT} {k : Nat} {C : Addr} {x y : Str} {ps : List Str} {sp : Sp} {E : XK} {e : Expr} {es : List Expr} {p pos : Pos} {tf : TE} {t : TA} (c : CalleeI X.prog X.w X.K X.mg X.base CX k C y ps sp) (room : Room (k + 1) X.A) (pass : Passes CX X E) (hn : PE X (.Name x p) tf) (ha : PA X (e :: es) t)
    (d1 : starEach (e :: es) X.env = (false, eval e X.env) :: starEach es X.env := by rfl) (d2 : (backTo pos (starEach es X.env)).any (·.1) = false := by rfl) :
    PE X (.Call (.Name x p) (e :: es) [] pos) (tMakeL C sp E tf t) := by
  obtain ⟨f, fd, F, M, hm, hb⟩ := c.ex
  refine ⟨fun pins s σ H Q I h => wpAny_Call_Name_kw (thn (hn.run pins s σ H _ I h) fun u s1 r => ?_)⟩
  obtain ⟨v, H1, I1, rv, rfl, z⟩ := r
  obtain rfl : u = Value.ref C := rv
  refine PySem.W.callWith_K (h₀ := X.base) I1.ok.mod.kin M.kp (thn (ha.run pos pins s1 σ H1 _ I1 z) fun us s2 y => ?_) d1 d2
  obtain ⟨vs, H2, I2, r2, q2⟩ := y
  exact ⟨I2.kIn, run_make M F room hb .nil pass I2 r2 q2⟩
end
theorem r_cmeth {σ : L2.St} {H : Hp} {Q : VK} {C : Addr} {sp : Sp} {E : XK} {ta : TE} {t : TA} (q : ta σ H fun x H1 => x = .ref C ∧ t σ H1 fun vs H2 => sp (.ref C :: vs) H2 Q E) : ClX.tCMeth C sp E ta t σ H Q := q
theorem r_makeL {σ : L2.St} {H : Hp} {Q : VK} {C : Addr} {sp : Sp} {E : XK} {tf : TE} {t : TA} (q : tf σ H fun v H1 => v = .ref C ∧ tMake C sp [] E t σ H1 Q) : tMakeL C sp E tf t σ H Q := q
end KP

/-! KS: lists of texts compared; small helpers. -/
namespace KS
open PySem PySem.Spec PyProof.Rows L2 KB KG KO KY
theorem dp_strs {K : PySem.W.Frag} {H : Hp} : ∀ zs : List Str, DpAll K H (zs.map V.str) (zs.map PyData.str)
  | [] => .nil
  | z :: r => .cons (.str z) (dp_strs r)
theorem lay_strs : ∀ zs : List Str, (∀ z ∈ zs, PyData.strOk z = true) → PyData.canLayAll0 (zs.map PyData.str) = true
  | [], _ => rfl
  | n :: r, h => by
    show (PyData.canLay0 (.str n) && PyData.canLayAll0 (r.map PyData.str)) = true
    rw [lay_strs r fun z m => h z (List.mem_cons_of_mem _ m)]
    simp [PyData.canLay0, h n (List.mem_cons_self ..)]
theorem depth_strs : ∀ zs : List Str, PyData.depthAll (zs.map PyData.str) = 0
  | [] => rfl
  | n :: r => by
    show max (PyData.depth (.str n)) (PyData.depthAll (r.map PyData.str)) = 0
    rw [depth_strs r]; rfl
theorem shaped_strs {zs : List Str} (h : ∀ z ∈ zs, PyData.strOk z = true) : SeqAt.shaped (.list (zs.map PyData.str)) = true := by
  show (PyData.canLayAll0 (zs.map PyData.str) && decide (PyData.depthAll (zs.map PyData.str) + 1 ≤ 64)) = true
  rw [lay_strs zs h, depth_strs]; rfl
theorem eqv_strs : ∀ ns ms : List Str, PyData.eqvAll (ns.map PyData.str) (ms.map PyData.str) = decide (ns = ms)
  | [], [] => rfl
  | [], _ :: _ => rfl
  | _ :: _, [] => rfl
  | n :: r, m :: q => by
    show (PyData.eqv (.str n) (.str m) && PyData.eqvAll (r.map PyData.str) (q.map PyData.str)) = decide (n :: r = m :: q)
    rw [eqv_strs r q]
    have e : PyData.eqv (.str n) (.str m) = decide (n = m) := by
      simp only [PyData.eqv]
      by_cases h : n = m <;> simp [h]
    rw [e]
    by_cases h1 : n = m <;> by_cases h2 : r = q <;> simp [h1, h2]
theorem r_eqStrs {K : PySem.W.Frag} {H : Hp} {Q : VK} {a b : Addr} {ns ms : List Str} (h : SqL K H a (ns.map V.str)) (h' : SqL K H b (ms.map V.str)) (o1 : ∀ z ∈ ns, PyData.strOk z = true) (o2 : ∀ z ∈ ms, PyData.strOk z = true) (q : Q (.bl (decide (ns = ms))) H) : rEqD K (.ref a) (.ref b) H Q :=
  ⟨_, _, .lst h (dp_strs ns), .lst h' (dp_strs ms), shaped_strs o1, shaped_strs o2, (show Q (.bl (PyData.eqvAll (ns.map PyData.str) (ms.map PyData.str))) H by rw [eqv_strs]; exact q)⟩
theorem r_neStrs {K : PySem.W.Frag} {H : Hp} {Q : VK} {a b : Addr} {ns ms : List Str} (h : SqL K H a (ns.map V.str)) (h' : SqL K H b (ms.map V.str)) (o1 : ∀ z ∈ ns, PyData.strOk z = true) (o2 : ∀ z ∈ ms, PyData.strOk z = true) (q : Q (.bl (!decide (ns = ms))) H) : rNeD K (.ref a) (.ref b) H Q :=
  ⟨_, _, .lst h (dp_strs ns), .lst h' (dp_strs ms), shaped_strs o1, shaped_strs o2, (show Q (.bl (!PyData.eqvAll (ns.map PyData.str) (ms.map PyData.str))) H by rw [eqv_strs]; exact q)⟩
theorem r_sls {H : Hp} {Q : VK} {z : Str} {lo hi : Option Int} (h : z.length ≤ sizeLine) (q : Q (.str (cutS z lo hi)) H) : rSlS (.str z) lo hi H Q := ⟨z, rfl, h, q⟩
theorem rep_map {n : Nat} (z : Str) : (List.replicate ((n : Nat) : Int).toNat [V.str z]).flatten = (List.replicate n z).map V.str := by
  rw [Int.toNat_natCast]
  induction n with
  | zero => rfl
  | succ n ih => rw [List.replicate_succ, List.flatten_cons, ih, List.replicate_succ]; rfl
theorem all_rep {zs : List Str} {z : Str} (h : ∀ y ∈ zs, y = z) : zs = List.replicate zs.length z := List.eq_replicate_of_mem h
/-! ### repr of a value of a kind -/
section
variable {X : Cx}
def rReprOd : List V → Hp → VK → Prop := fun xs H Q => ∃ (v : V) (t : Dt), xs = [v] ∧ OdAt H v t ∧ t.d.showable = true ∧ t.d.depth ≤ 60 ∧ t.d.shown.length ≤ sizeLine ∧ Q (.str t.d.shown) H
theorem call_reprOd {k : Nat} (fr : Free X.A) (room : Room k X.A) : CallR X (.builtin "repr") rReprOd := by
  intro pins st σ h xs us Z inv rel pre
  obtain ⟨v, t, rfl, od, ok, deep, sz, z⟩ := pre
  obtain ⟨u, rfl, rv⟩ := vals_one rel
  obtain ⟨as, rd, ns⟩ := od_reads inv od rv
  by_cases nod : t.d.hasDict = false
  · exact KG.repr_data rd ok nod sz fr (by have := room.un; omega) fun h' t1 tk kp => ⟨.str t.d.shown, h, inv.kept kp, ⟨t1, rfl⟩, z⟩
  · cases t with
    | dct l =>
      obtain ⟨a, rfl, e⟩ := id od
      obtain rfl : u = Value.ref a := rv
      exact repr_of_reads' rd ok ns fr (by have := room.un; omega) (fun _ _ e => e) (fun h' t1 tk kp => ⟨.str _, h, inv.kept kp, ⟨t1, rfl⟩, z⟩) sz
    | sc s => exact absurd (noD_sc s) nod
    | tup l => exact absurd (show PyData.hasDictAll _ = false from noD_scs l) nod
    | lst l => exact absurd (show PyData.hasDictAll _ = false from noD_scs l) nod
end
end KS

/-! ### own steps of the reading -/
local macro_rules | `(tactic| walk_at "hp") => `(tactic| first | with_reducible assumption | with_reducible exact L2.upd_same | (refine KB.upd_new ?h1 ?h2; (case h1 => (with_reducible assumption)); (case h2 => walk_at "hp")) | (rw [L2.upd_ne (by first | assumption | exact Ne.symm (by assumption))]; walk_at "hp"))
local macro_rules | `(tactic| walk_at "sq") => `(tactic| first | with_reducible assumption | (refine L2.SqL.of ?h1; (case h1 => walk_at "hp")) | (refine L2.SqT.of ?h1; (case h1 => walk_at "hp")))
local macro_rules | `(tactic| walk_at "sq2") => `(tactic| first | (refine Or.inl ?_; walk_at "sq") | (refine Or.inr ?_; walk_at "sq") | (with_reducible exact Or.inr (by (first | with_reducible assumption | apply_assumption))))
local macro_rules | `(tactic| walk_at "sz") => `(tactic| exact KB.sz_lit (by simp))
local macro_rules | `(tactic| walk_at "cond") => `(tactic| first | (show _ ∨ _; first | exact Or.inl ⟨by omega, by omega⟩ | exact Or.inr ⟨by omega, by omega⟩) | (show _ ∧ _ ∧ _; exact ⟨by omega, by omega, by omega⟩) | (show _ ∧ _; exact ⟨by omega, by omega⟩) | (show _ < _; omega) | (show _ ≤ _; omega))
local macro_rules | `(tactic| walk_at "rd1") => `(tactic| first
  | with_reducible refine KB.r_seq ?_
  | with_reducible refine KB.r_next ?_
  | with_reducible refine KB.r_c ?_
  | ((with_reducible refine KB.r_var (v := ?v1) ?h1 ?q); (case h1 => exact rfl))
  | with_reducible refine KB.r_op ?_
  | with_reducible refine KB.r_un ?_
  | with_reducible refine KB.r_I0 ?_
  | ((with_reducible refine KB.r_I ?h1 ?q); (case h1 => walk_at "cond"))
  | with_reducible refine KB.r_int1 ?_
  | with_reducible refine KB.r_bl1 ?_
  | with_reducible refine KB.r_ex1 ?_
  | with_reducible refine KB.r_ex2 ?_
  | ((with_reducible refine KB.r_lenS (xs := ?v1) ?h1 ?q); (case h1 => walk_at "sq"))
  | ((with_reducible refine KB.r_eq ?h1 ?q); (case h1 => exact rfl))
  | ((with_reducible refine KB.r_ne ?h1 ?q); (case h1 => exact rfl))
  | with_reducible refine KB.r_U ?_
  | with_reducible refine KB.r_test ?_
  | with_reducible refine KB.r_B ?_
  | with_reducible refine KB.r_bl ?_
  | with_reducible refine KB.r_int ?_
  | with_reducible refine KB.r_and ?_
  | with_reducible refine KB.r_or ?_
  | with_reducible refine KB.r_not ?_
  | with_reducible refine KB.r_andV ?_
  | with_reducible refine KB.r_orV ?_
  | with_reducible refine KB.r_notV ?_
  | with_reducible refine KB.r_if ?_
  | with_reducible refine KB.r_nil ?_
  | with_reducible refine KB.r_cons ?_
  | with_reducible refine KB.r_tup ?_
  | with_reducible refine KB.r_lst ?_
  | with_reducible refine KB.r_call ?_
  | with_reducible refine KB.r_cb ?_
  | ((with_reducible refine KB.r_ixL (xs := ?v1) (v := ?v2) ?h1 ?h2 ?q); (case h1 => walk_at "sq"); (case h2 => exact rfl))
  | ((with_reducible refine KB.r_ixT (xs := ?v1) (v := ?v2) ?h1 ?h2 ?q); (case h1 => walk_at "sq"); (case h2 => exact rfl))
  | ((with_reducible refine KB.r_setL (xs := ?v1) (j := ?v2) ?h1 ?h2 ?q); (case h1 => walk_at "hp"); (case h2 => exact rfl))
  | with_reducible refine KB.r_meth ?_
  | with_reducible refine KB.r_fld ?_
  | with_reducible refine KB.r_sfld ?_
  | with_reducible refine KB.r_gname ?_
  | with_reducible refine KB.r_for ?_
  | with_reducible refine KO.r_methK0 ?_
  | with_reducible refine KO.r_makeK ?_
  | with_reducible refine KO.r_joined ?_
  | with_reducible refine KO.r_joined0 ?_
  | with_reducible refine KO.r_fmt ?_
  | with_reducible refine KB.r_isNone ?_
  | ((with_reducible refine KB.r_gtup (xs := ?v1) ?h1 ?h2 ?q); (case h1 => walk_at "sq"); (case h2 => exact rfl))
  | with_reducible refine KB.r_gcons ?_
  | with_reducible refine KB.r_gnil ?_
  | with_reducible refine KB.r_irng2 ?_
  | with_reducible refine KB.r_bm ?_
  | ((with_reducible refine KB.r_tyL (xs := ?v1) ?h1 ?q); (case h1 => walk_at "sq"))
  | ((with_reducible refine KB.r_fldK (C := ?v1) (dx := ?v2) (fs := ?v3) (v := ?v4) ?h1 ?h2 ?h3 ?h4 ?q); (case h1 => walk_at "hp"); (case h2 => assumption); (case h3 => assumption); (case h4 => exact rfl))
  | with_reducible refine KB.r_callD ?_
  | with_reducible refine KB.r_callN ?_
  | with_reducible refine KB.r_dget1 ?_
  | with_reducible refine KB.r_dget ?_
  | with_reducible refine KB.r_dput ?_
  | with_reducible refine KB.r_disp ?_
  | with_reducible refine KB.r_pairs ?_
  | with_reducible refine KB.r_pairs0 ?_
  | with_reducible refine KB.r_make ?_
  | with_reducible refine KB.r_m1 ?_
  | with_reducible refine KB.r_m0 ?_
  | with_reducible refine KB.r_isStr ?_
  | with_reducible refine KB.r_exStr ?_
  | with_reducible refine KB.r_lc ?_
  | with_reducible refine KB.r_irng1 ?_
  | with_reducible refine KB.r_itup ?_
  | with_reducible refine KB.r_ilist ?_
  | with_reducible refine KB.r_istr ?_
  | ((with_reducible refine KB.r_cval (v := ?v1) (mc := ?v2) (uu := ?v3) ?h1 ?h2 ?q); (case h1 => assumption); (case h2 => assumption))
  | ((with_reducible refine KB.r_notInS (zs := ?v1) ?h1 ?q); (case h1 => walk_at "sq2"))
  | ((with_reducible refine KB.r_inS (zs := ?v1) ?h1 ?q); (case h1 => walk_at "sq2"))
  | with_reducible refine KB.r_asg ?_
  | with_reducible refine KB.r_asgS ?_
  | with_reducible refine KB.r_asgG ?_
  | with_reducible refine KB.r_ifS ?_
  | with_reducible refine KB.r_ret ?_
  | with_reducible refine KB.r_drop ?_
  | with_reducible refine KB.r_par ?_
  | with_reducible refine KB.r_match ?_
  | with_reducible refine KB.r_mstr ?_
  | with_reducible refine KB.r_mnil ?_
  | with_reducible refine KB.r_sl ?_
  | with_reducible refine KB.r_nopart ?_
  | with_reducible refine KB.r_part ?_
  | ((with_reducible refine KB.r_slL (xs := ?v1) ?h1 ?q); (case h1 => walk_at "sq"))
  | with_reducible refine L2.iteF ?_
  | with_reducible refine KB.iteNt ?_
  | with_reducible refine KB.iteNf ?_
  | with_reducible refine L2.iteT ?_
  | dsimp only)
local macro_rules | `(tactic| walk_at "rd") => `(tactic| repeat walk_at "rd1")
local macro_rules | `(tactic| walk_at "sp1") => `(tactic| first | with_reducible refine KB.r_iteS2 (fun _ => ?_) (fun _ => ?_) | with_reducible refine KB.r_iteI2 (fun _ => ?_) (fun _ => ?_) | with_reducible refine KB.r_ite2 (fun _ => ?_) (fun _ => ?_) | with_reducible refine KB.r_iteN2 (fun _ => ?_) (fun _ => ?_) | with_reducible refine KB.r_iteB (fun _ => ?_) (fun _ => ?_) | with_reducible refine KB.r_iteBN (fun _ => ?_) (fun _ => ?_))
local macro_rules | `(tactic| walk_at "sp") => `(tactic| repeat' (first | walk_at "rd1" | walk_at "sp1"))
local macro_rules | `(tactic| walk_at "ifs") => `(tactic| repeat (first | rw [if_pos (by assumption)] | rw [if_neg (by assumption)]))

namespace K05
open PySem L2 KB
def top (i : Nat) : Stmt := PySem.Challenge.pw_keptbits_k05_what_blends_refuse.main.body.getD i (.Pass ⟨0, 0, 0, 0⟩)
abbrev s_is_integer : Stmt := top 11
theorem sc_is_integer : FnScope ["value"] ["value"] (defScope s_is_integer) := ⟨rfl, rfl, rfl, by decide +kernel, rfl, by decide +kernel, by decide +kernel⟩
abbrev s_need_width : Stmt := top 12
theorem sc_need_width : FnScope ["width"] ["width"] (defScope s_need_width) := ⟨rfl, rfl, rfl, by decide +kernel, rfl, by decide +kernel, by decide +kernel⟩
abbrev s_ones : Stmt := top 13
theorem sc_ones : FnScope ["width"] ["width"] (defScope s_ones) := ⟨rfl, rfl, rfl, by decide +kernel, rfl, by decide +kernel, by decide +kernel⟩
abbrev s_is_word : Stmt := top 14
theorem sc_is_word : FnScope ["width", "value"] ["width", "value"] (defScope s_is_word) := ⟨rfl, rfl, rfl, by decide +kernel, rfl, by decide +kernel, by decide +kernel⟩
abbrev s_need_word : Stmt := top 15
theorem sc_need_word : FnScope ["width", "value"] ["width", "value"] (defScope s_need_word) := ⟨rfl, rfl, rfl, by decide +kernel, rfl, by decide +kernel, by decide +kernel⟩
abbrev s_shifted : Stmt := top 16
theorem sc_shifted : FnScope ["value", "width", "shift"] ["value", "width", "shift"] (defScope s_shifted) := ⟨rfl, rfl, rfl, by decide +kernel, rfl, by decide +kernel, by decide +kernel⟩
abbrev s_need_step : Stmt := top 18
theorem sc_need_step : FnScope ["width", "step"] ["width", "step"] (defScope s_need_step) := ⟨rfl, rfl, rfl, by decide +kernel, rfl, by decide +kernel, by decide +kernel⟩
abbrev s_Blend___init__ : Stmt := inClass (top 19) 0
theorem sc_Blend___init__ : FnScope ["self", "width", "shift", "keep", "flip", "kept"] ["self", "width", "shift", "keep", "flip"] (defScope s_Blend___init__) := ⟨rfl, rfl, rfl, by decide +kernel, rfl, by decide +kernel, by decide +kernel⟩
abbrev s_Blend_constant : Stmt := inClass (top 19) 1
theorem sc_Blend_constant : FnScope ["cls", "width", "value"] ["cls", "width", "value"] (defScope s_Blend_constant) := ⟨rfl, rfl, rfl, by decide +kernel, rfl, by decide +kernel, by decide +kernel⟩
abbrev s_Blend___call__ : Stmt := inClass (top 19) 3
theorem sc_Blend___call__ : FnScope ["self", "value"] ["self", "value"] (defScope s_Blend___call__) := ⟨rfl, rfl, rfl, by decide +kernel, rfl, by decide +kernel, by decide +kernel⟩
abbrev s_Blend___and__ : Stmt := inClass (top 19) 4
theorem sc_Blend___and__ : FnScope ["self", "other"] ["self", "other"] (defScope s_Blend___and__) := ⟨rfl, rfl, rfl, by decide +kernel, rfl, by decide +kernel, by decide +kernel⟩
abbrev s_Blend___rand__ : Stmt := inClass (top 19) 5
theorem sc_Blend___rand__ : FnScope ["self", "other"] ["self", "other"] (defScope s_Blend___rand__) := ⟨rfl, rfl, rfl, by decide +kernel, rfl, by decide +kernel, by decide +kernel⟩
abbrev s_Blend___or__ : Stmt := inClass (top 19) 6
theorem sc_Blend___or__ : FnScope ["self", "other"] ["self", "other"] (defScope s_Blend___or__) := ⟨rfl, rfl, rfl, by decide +kernel, rfl, by decide +kernel, by decide +kernel⟩
abbrev s_Blend___ror__ : Stmt := inClass (top 19) 7
theorem sc_Blend___ror__ : FnScope ["self", "other"] ["self", "other"] (defScope s_Blend___ror__) := ⟨rfl, rfl, rfl, by decide +kernel, rfl, by decide +kernel, by decide +kernel⟩
abbrev s_Blend___xor__ : Stmt := inClass (top 19) 8
theorem sc_Blend___xor__ : FnScope ["self", "other"] ["self", "other"] (defScope s_Blend___xor__) := ⟨rfl, rfl, rfl, by decide +kernel, rfl, by decide +kernel, by decide +kernel⟩
abbrev s_Blend___rxor__ : Stmt := inClass (top 19) 9
theorem sc_Blend___rxor__ : FnScope ["self", "other"] ["self", "other"] (defScope s_Blend___rxor__) := ⟨rfl, rfl, rfl, by decide +kernel, rfl, by decide +kernel, by decide +kernel⟩
abbrev s_Blend___invert__ : Stmt := inClass (top 19) 10
theorem sc_Blend___invert__ : FnScope ["self"] ["self"] (defScope s_Blend___invert__) := ⟨rfl, rfl, rfl, by decide +kernel, rfl, by decide +kernel, by decide +kernel⟩
abbrev s_Blend___lshift__ : Stmt := inClass (top 19) 11
theorem sc_Blend___lshift__ : FnScope ["self", "other"] ["self", "other"] (defScope s_Blend___lshift__) := ⟨rfl, rfl, rfl, by decide +kernel, rfl, by decide +kernel, by decide +kernel⟩
abbrev s_Blend___rshift__ : Stmt := inClass (top 19) 12
theorem sc_Blend___rshift__ : FnScope ["self", "other"] ["self", "other"] (defScope s_Blend___rshift__) := ⟨rfl, rfl, rfl, by decide +kernel, rfl, by decide +kernel, by decide +kernel⟩
abbrev s_Blend___eq__ : Stmt := inClass (top 19) 13
theorem sc_Blend___eq__ : FnScope ["self", "other"] ["self", "other"] (defScope s_Blend___eq__) := ⟨rfl, rfl, rfl, by decide +kernel, rfl, by decide +kernel, by decide +kernel⟩
abbrev s_Blend___repr__ : Stmt := inClass (top 19) 14
theorem sc_Blend___repr__ : FnScope ["self"] ["self"] (defScope s_Blend___repr__) := ⟨rfl, rfl, rfl, by decide +kernel, rfl, by decide +kernel, by decide +kernel⟩
abbrev s_moved : Stmt := top 20
theorem sc_moved : FnScope ["blend", "step", "keep", "flip"] ["blend", "step"] (defScope s_moved) := ⟨rfl, rfl, rfl, by decide +kernel, rfl, by decide +kernel, by decide +kernel⟩
abbrev s__law_pen : Stmt := top 22
theorem sc__law_pen : FnScope ["_law_script"] ["_law_script"] (defScope s__law_pen) := ⟨rfl, rfl, rfl, by decide +kernel, rfl, by decide +kernel, by decide +kernel⟩
abbrev s__law_draw : Stmt := top 23
theorem sc__law_draw : FnScope ["_law_pen_here", "_law_many", "_law_digit", "_law_at", "_law_cell", "_law_great", "_law_mixed"] ["_law_pen_here", "_law_many"] (defScope s__law_draw) := ⟨rfl, rfl, rfl, by decide +kernel, rfl, by decide +kernel, by decide +kernel⟩
abbrev s__law_word : Stmt := top 24
theorem sc__law_word : FnScope ["_law_pen_here", "_law_width", "_law_top", "_law_any_word", "_law_turn", "_law_other"] ["_law_pen_here", "_law_width"] (defScope s__law_word) := ⟨rfl, rfl, rfl, by decide +kernel, rfl, by decide +kernel, by decide +kernel⟩
abbrev s__law_heard : Stmt := top 25
theorem sc__law_heard : FnScope ["_law_ask", "_law_caught", "error", "_law_marks"] ["_law_ask"] (defScope s__law_heard) := ⟨rfl, rfl, rfl, by decide +kernel, rfl, by decide +kernel, by decide +kernel⟩
abbrev s__law_odd : Stmt := top 26
theorem sc__law_odd : FnScope ["_law_pen_here", "_law_width", "_law_top", "_law_some"] ["_law_pen_here", "_law_width"] (defScope s__law_odd) := ⟨rfl, rfl, rfl, by decide +kernel, rfl, by decide +kernel, by decide +kernel⟩
abbrev s__law_whole : Stmt := top 27
theorem sc__law_whole : FnScope ["_law_thing"] ["_law_thing"] (defScope s__law_whole) := ⟨rfl, rfl, rfl, by decide +kernel, rfl, by decide +kernel, by decide +kernel⟩
abbrev s__law_due : Stmt := top 28
theorem sc__law_due : FnScope ["_law_numbers", "_law_marks", "_law_width", "_law_shift", "_law_keep", "_law_flip", "_law_top"] ["_law_numbers", "_law_marks"] (defScope s__law_due) := ⟨rfl, rfl, rfl, by decide +kernel, rfl, by decide +kernel, by decide +kernel⟩
abbrev s__law_made_right : Stmt := top 29
theorem sc__law_made_right : FnScope ["_law_width", "_law_numbers", "_law_due_here", "_law_heard_here"] ["_law_width", "_law_numbers"] (defScope s__law_made_right) := ⟨rfl, rfl, rfl, by decide +kernel, rfl, by decide +kernel, by decide +kernel⟩
abbrev s__law_operations_right : Stmt := top 30
theorem sc__law_operations_right : FnScope ["_law_blend", "_law_thing", "_law_fits", "_law_heard_here", "_law_one", "_law_is_step"] ["_law_blend", "_law_thing"] (defScope s__law_operations_right) := ⟨rfl, rfl, rfl, by decide +kernel, rfl, by decide +kernel, by decide +kernel⟩
abbrev s_law : Stmt := top 31
theorem sc_law : FnScope ["_law_script", "_law_pen_here", "_law_width", "_law_things", "_law_blend", "_law_kept", "_law_thing", "_law_turn", "_law_numbers", "_law_again"] ["_law_script"] (defScope s_law) := ⟨rfl, rfl, rfl, by decide +kernel, rfl, by decide +kernel, by decide +kernel⟩

structure Txt (mg : Str → Option Value) : Prop where
  z_int : mg "int" = none
  z_bool : mg "bool" = none
  z_abs : mg "abs" = none
  z_len : mg "len" = none
  z_list : mg "list" = none
  z_tuple : mg "tuple" = none
  z_str : mg "str" = none
  z_range : mg "range" = none
  z_isinstance : mg "isinstance" = none
  z_repr : mg "repr" = none
  z_ValueError : mg "ValueError" = none
/-- the pen: its cells, the next index, what is left; room for k draws more -/
def PenC (H : Hp) (p c : Addr) (k : Nat) : Prop := ∃ (ns : List Int) (at_ : Nat) (left : Int),
  H p = some (.lst [.ref c, .int at_, .int left]) ∧ H c = some (.lst (ns.map V.int)) ∧ p ≠ c ∧ ns.length ≤ 63 ∧ at_ + k ≤ 100000
def Keep (p : Addr) (H H' : Hp) : Prop := ∀ b o, H b = some o → b ≠ p → H' b = some o
theorem PenC.mono {H : Hp} {p c : Addr} {j k : Nat} (h : PenC H p c k) (e : j ≤ k) : PenC H p c j := by
  obtain ⟨ns, at_, left, h1, h2, h3, h4, h5⟩ := h
  exact ⟨ns, at_, left, h1, h2, h3, h4, by omega⟩
theorem PenC.up {H H' : Hp} {p c : Addr} {k : Nat} (h : PenC H p c k) (s : Same H H') : PenC H' p c k := by
  obtain ⟨ns, at_, left, h1, h2, h3, h4, h5⟩ := h
  exact ⟨ns, at_, left, s _ _ h1, s _ _ h2, h3, h4, h5⟩
theorem PenC.ne {H : Hp} {p c q : Addr} {k : Nat} (h : PenC H p c k) (n : H q = none) : q ≠ p := by
  obtain ⟨ns, at_, left, h1, h2, h3, h4, h5⟩ := h
  exact (ne_of_none h1 n).symm
theorem PenC.nec {H : Hp} {p c q : Addr} {k : Nat} (h : PenC H p c k) (n : H q = none) : q ≠ c := by
  obtain ⟨ns, at_, left, h1, h2, h3, h4, h5⟩ := h
  exact (ne_of_none h2 n).symm
theorem PenC.keep {H H' : Hp} {p c q : Addr} {k : Nat} (h : PenC H p c k) (s : Keep q H H') (n1 : q ≠ p) (n2 : q ≠ c) : PenC H' p c k := by
  obtain ⟨ns, at_, left, h1, h2, h3, h4, h5⟩ := h
  exact ⟨ns, at_, left, s _ _ h1 n1.symm, s _ _ h2 n2.symm, h3, h4, h5⟩
theorem PenC.lst {H : Hp} {p c : Addr} {k : Nat} (h : PenC H p c k) : ∃ xs, H p = some (.lst xs) := by
  obtain ⟨ns, at_, left, h1, _⟩ := h
  exact ⟨_, h1⟩
theorem PenC.not {H : Hp} {p c b : Addr} {k : Nat} {o : HO} (h : PenC H p c k) (e : H b = some o) (n : ∀ xs, o ≠ .lst xs) : b ≠ p := by
  obtain ⟨xs, h1⟩ := h.lst
  intro z
  rw [z, h1] at e
  exact n xs (Option.some.inj e).symm
def spPen (K : PySem.W.Frag) : Sp := fun vs H Q _ => ∃ (a : Addr) (ns : List Int), vs = [.ref a] ∧ SqL K H a (ns.map V.int) ∧ ns.length ≤ 63 ∧
  ∀ H' p c, Same H H' → H p = none → H c = none → PenC H' p c 100000 → Q (.ref p) H'
def spDraw : Sp := fun vs H Q _ => ∃ (p c : Addr) (many : Int) (k : Nat), vs = [.ref p, .int many] ∧ 0 < many ∧ many < 1000000000 ∧ PenC H p c (k + 1) ∧
  ∀ (r : Int) H', 0 ≤ r → r < many → PenC H' p c k → Keep p H H' → Q (.int r) H'

theorem Keep.tr {p : Addr} {H1 H2 H3 : Hp} (a : Keep p H1 H2) (b : Keep p H2 H3) : Keep p H1 H3 := fun x o e n => b x o (a x o e n) n
theorem Keep.same {p : Addr} {H1 H2 : Hp} (a : Same H1 H2) : Keep p H1 H2 := fun x o e n => a x o e

section
variable {P : Program} {w : World} {K : PySem.W.Frag} {mg : Str → Option Value} {base : Heap}
theorem ok_pen {f : Addr} {fd : FuncData} {k : Nat} (F : Fun K "_law_pen" "_law_pen" s__law_pen f fd) (T : Txt mg) : FnOk P w K mg base CX0 (k + 1) f fd ["_law_script"] (spPen K) := by
  refine F.ok sc__law_pen (fun vs H Q E h => ?_) (fun cdv A outer s H vs Q E hr h => ?_)
  · obtain ⟨a, ns, rfl, _⟩ := h
    rfl
  · obtain ⟨a, ns, rfl, hS, hl, q⟩ := h
    refine ⟨_, (pss_one (ps_ret (pe_lst (pa_cons (pe_callTy call_list_of (by rfl) T.z_list (by decide +kernel) (pa_cons (pe_slice sl_list (pv 0) po_none (po_some pe_int)) pa_nil)) (pa_cons pe_int (pa_cons pe_int pa_nil)))))), at_start (σ := [some (.ref a)]) rfl ?_⟩
    dsimp only [cx_K]
    walk_at "rd"
    intro c nc
    have ec : cutV (ns.map V.int) none (some 63) = (ns.take 63).map V.int := by
      rw [show (63 : Int) = ((63 : Nat) : Int) from rfl, cutV_take, List.map_take]
    rw [ec]
    walk_at "rd"
    intro l nl
    walk_at "rd"
    refine ⟨by walk_at "sz", fun p np => ?_⟩
    have npl : p ≠ l := fun z => by rw [z, upd_same] at np; cases np
    have s0 := ((same_new (o := .lst ((ns.take 63).map V.int)) nc).trans (same_new (o := .lst ((ns.take 63).map V.int)) nl)).trans (same_new (o := .lst [.ref l, .int 0, .int 0]) np)
    refine q _ p l s0 (((same_new nc).trans (same_new nl)).free np) ((same_new nc).free nl) ⟨ns.take 63, 0, 0, upd_same, upd_new np upd_same, npl, ?_, by omega⟩
    rw [List.length_take]
    omega
theorem ok_draw {f : Addr} {fd : FuncData} {k : Nat} (F : Fun K "_law_draw" "_law_draw" s__law_draw f fd) (T : Txt mg) : FnOk P w K mg base CX0 (k + 1) f fd ["_law_pen_here", "_law_many"] spDraw := by
  refine F.ok sc__law_draw (fun vs H Q E h => ?_) (fun cdv A outer s H vs Q E hr h => ?_)
  · obtain ⟨p, c, many, k, rfl, _⟩ := h
    rfl
  · obtain ⟨p, c, many, k, rfl, hm0, hm1, ⟨ns, at_, left, hp, hc, npc, hn, hat⟩, q⟩ := h
    refine ⟨_, (pss_cons (ps_if (pt_cmpR op_gt (pe_ix ix_list (pv 0) pe_int (fun _ _ => rfl)) pe_int (nomark _)) (pss_cons (ps_set (i := 2) sc__law_draw.nd rfl (by first | exact Or.inl rfl | exact Or.inr rfl) (pe_op op_mod (pe_callTy call_int1 (by rfl) T.z_int (by decide +kernel) (pa_cons (pe_ix ix_list (pv 0) pe_int (fun _ _ => rfl)) pa_nil)) (pv 1)))
 (pss_cons (ps_asg (pe_op op_fdiv (pe_callTy call_int1 (by rfl) T.z_int (by decide +kernel) (pa_cons (pe_ix ix_list (pv 0) pe_int (fun _ _ => rfl)) pa_nil)) (pv 1)) (pg_sub (pv 0) pe_int set_list))
 (pss_one (ps_ret (pv 2)))))
 pss_nil)
 (pss_cons (ps_set (i := 3) sc__law_draw.nd rfl (by first | exact Or.inl rfl | exact Or.inr rfl) (pe_ix ix_list (pv 0) pe_int (fun _ _ => rfl)))
 (pss_cons (ps_asg (pe_op op_add (pv 3) pe_int) (pg_sub (pv 0) pe_int set_list))
 (pss_cons (ps_set (i := 4) sc__law_draw.nd rfl (by first | exact Or.inl rfl | exact Or.inr rfl) (pe_op op_add (pe_op op_mul pe_int (pv 3)) pe_int))
 (Evl.pss_cut (ps_if (pt_cmpR (op_neD hr.units) (pe_ix ix_list (pv 0) pe_int (fun _ _ => rfl)) (pe_lst pa_nil) (nomark _)) (pss_one (ps_set (i := 4) sc__law_draw.nd rfl (by first | exact Or.inl rfl | exact Or.inr rfl) (pe_ix ix_list (pe_ix ix_list (pv 0) pe_int (fun _ _ => rfl)) (pe_op op_mod (pe_callTy call_int1 (by rfl) T.z_int (by decide +kernel) (pa_cons (pv 3) pa_nil)) (pe_callB call_len_seq (by rfl) T.z_len (by decide +kernel) (pa_cons (pe_ix ix_list (pv 0) pe_int (fun _ _ => rfl)) pa_nil))) (fun _ _ => rfl))))
 pss_nil)
 (pss_cons (ps_if (PW.pt (pw_and (pt_cmpR op_lt (pv 3) (pe_callB call_len_seq (by rfl) T.z_len (by decide +kernel) (pa_cons (pe_ix ix_list (pv 0) pe_int (fun _ _ => rfl)) pa_nil)) (nomark _)) (pw_and1 (pt_cmpR op_ge (pe_callB call_abs (by rfl) T.z_abs (by decide +kernel) (pa_cons (pv 4) pa_nil)) (pe_op op_pow pe_int pe_int) (nomark _))))) (pss_cons (ps_set (i := 5) sc__law_draw.nd rfl (by first | exact Or.inl rfl | exact Or.inr rfl) (pe_op op_add (pe_op op_mul pe_int (pe_callB call_abs (by rfl) T.z_abs (by decide +kernel) (pa_cons (pv 4) pa_nil))) (pe_callTy call_int1 (by rfl) T.z_int (by decide +kernel) (pa_cons (pe_cmpR op_lt (pv 4) pe_int (nomark _)) pa_nil))))
 (pss_cons (ps_asg (pe_op op_fdiv (pv 5) (pv 1)) (pg_sub (pv 0) pe_int set_list))
 (pss_one (ps_ret (pe_op op_mod (pe_callTy call_int1 (by rfl) T.z_int (by decide +kernel) (pa_cons (pv 5) pa_nil)) (pv 1))))))
 pss_nil)
 (pss_cons (ps_set (i := 6) sc__law_draw.nd rfl (by first | exact Or.inl rfl | exact Or.inr rfl) (pe_op op_mod (pe_op op_pow (pe_callTy call_int1 (by rfl) T.z_int (by decide +kernel) (pa_cons (pe_op op_add (pe_op op_add (pe_op op_mod (pe_callTy call_int1 (by rfl) T.z_int (by decide +kernel) (pa_cons (pv 4) pa_nil)) pe_int) (pe_op op_mul pe_int (pv 3))) pe_int) pa_nil)) pe_int) pe_int))
 (pss_cons (ps_set (i := 6) sc__law_draw.nd rfl (by first | exact Or.inl rfl | exact Or.inr rfl) (pe_op op_mod (pe_op op_pow (pe_callTy call_int1 (by rfl) T.z_int (by decide +kernel) (pa_cons (pe_op op_add (pe_op op_add (pe_op op_mul (pv 6) (pe_op op_add (pv 3) pe_int)) (pe_op op_mul (pe_op op_mul pe_int (pv 3)) (pv 3))) pe_int) pa_nil)) pe_int) pe_int))
 (pss_one (ps_ret (pe_op op_mod (pe_callTy call_int1 (by rfl) T.z_int (by decide +kernel) (pa_cons (pe_op op_fdiv (pv 6) pe_int) pa_nil)) (pv 1)))))))))))), at_start (σ := [some (.ref p), some (.int many), none, none, none, none, none]) rfl ?_⟩
    dsimp only [cx_K]
    walk_at "rd"
    have upp : ∀ o, upd H p o c = some (.lst (ns.map V.int)) := fun o => by rw [upd_ne npc.symm]; exact hc
    refine r_ite2 (fun h1 => ?_) (fun h1 => ?_)
    · walk_at "rd"
      exact q (left % many) _ (Int.emod_nonneg _ (by omega)) (Int.emod_lt_of_pos _ hm0) ⟨ns, at_, left / many, upd_same, upp _, npc, hn, by omega⟩ fun b o e hb => by rw [upd_ne hb]; exact e
    · walk_at "rd"
      refine ⟨fun σ' H' => ∃ cell : Int, σ' = [some (.ref p), some (.int many), none, some (.int at_), some (.int cell), none, none] ∧ H' p = some (.lst [.ref c, .int (at_ + 1), .int left]) ∧ H' c = some (.lst (ns.map V.int)) ∧ Keep p H H', ?_, ?_⟩
      · walk_at "rd"
        refine ⟨by decide, fun e he => ?_⟩
        have npe : p ≠ e := fun z => by rw [z, upd_same] at he; cases he
        refine r_neInts (ns := ns) (ms := []) (by walk_at "sq") (SqL.of upd_same) ?_
        walk_at "rd"
        have k1 : Keep p H (upd (upd H p (.lst [.ref c, .int (at_ + 1), .int left])) e (.lst [])) := fun b o x hb => upd_new he (by rw [upd_ne hb]; exact x)
        refine r_iteN2 (fun h2 => ?_) (fun h2 => ?_)
        · walk_at "rd"
          have hl : 0 < ns.length := List.length_pos_iff.mpr h2
          rw [List.length_map]
          have hj : (at_ : Int) % (ns.length : Int) = ((at_ % ns.length : Nat) : Int) := by omega
          have hj2 : at_ % ns.length < ns.length := Nat.mod_lt _ hl
          refine r_I (by show (0 : Int) < _; omega) ?_
          refine r_ixL (xs := ns.map V.int) (v := .int (ns[at_ % ns.length])) (by walk_at "sq") (by rw [hj]; exact atI_nat (by simp [hj2])) ?_
          exact ⟨_, rfl, upd_new he upd_same, upd_new he (upp _), k1⟩
        · exact ⟨_, rfl, upd_new he upd_same, upd_new he (upp _), k1⟩
      · rintro σ' H' ⟨cell, rfl, hp1, hc1, k1⟩
        have h6 : ∀ (r : Int) (l2 : Int), 0 ≤ r → r < many → Q (.int r) (upd H' p (.lst [.ref c, .int ((at_ + 1 : Nat) : Int), .int l2])) := fun r l2 h7 h8 =>
          q r _ h7 h8 ⟨ns, at_ + 1, l2, upd_same, by rw [upd_ne npc.symm]; exact hc1, npc, hn, by omega⟩ fun b o x hb => by rw [upd_ne hb]; exact k1 b o x hb
        have h9 : ∀ r : Int, 0 ≤ r → r < many → Q (.int r) H' := fun r h7 h8 => q r _ h7 h8 ⟨ns, at_ + 1, left, hp1, hc1, npc, hn, by omega⟩ k1
        walk_at "rd"
        refine r_ite2 (fun h2 => ?_) (fun h2 => ?_)
        · walk_at "rd"
          refine r_ite2 (fun h3 => ?_) (fun h3 => ?_)
          · walk_at "rd"
            exact h6 _ _ (Int.emod_nonneg _ (by omega)) (Int.emod_lt_of_pos _ hm0)
          · walk_at "rd"
            have m1 : 0 ≤ (cell % 2147483579 + 57131 * (at_ : Int) + 211) ^ Int.toNat 5 % 2147483629 := Int.emod_nonneg _ (by decide)
            have m2 : (cell % 2147483579 + 57131 * (at_ : Int) + 211) ^ Int.toNat 5 % 2147483629 < 2147483629 := Int.emod_lt_of_pos _ (by decide)
            generalize (cell % 2147483579 + 57131 * (at_ : Int) + 211) ^ Int.toNat 5 % 2147483629 = m at m1 m2 ⊢
            have b1 := mul_bd (A := 2147483629) (B := 300000) m1 (by omega) (show 0 ≤ (at_ : Int) + 64007 by omega) (by omega)
            have b2 := mul_bd (A := 100000 * 91009) (B := 100000) (show 0 ≤ 91009 * (at_ : Int) by omega) (by omega) (show 0 ≤ (at_ : Int) by omega) (by omega)
            refine r_I (show CPow _ _ from ⟨by decide, by decide, by omega⟩) ?_
            walk_at "rd"
            exact h9 _ (Int.emod_nonneg _ (by omega)) (Int.emod_lt_of_pos _ hm0)

        · walk_at "rd"
          have m1 : 0 ≤ (cell % 2147483579 + 57131 * (at_ : Int) + 211) ^ Int.toNat 5 % 2147483629 := Int.emod_nonneg _ (by decide)
          have m2 : (cell % 2147483579 + 57131 * (at_ : Int) + 211) ^ Int.toNat 5 % 2147483629 < 2147483629 := Int.emod_lt_of_pos _ (by decide)
          generalize (cell % 2147483579 + 57131 * (at_ : Int) + 211) ^ Int.toNat 5 % 2147483629 = m at m1 m2 ⊢
          have b1 := mul_bd (A := 2147483629) (B := 300000) m1 (by omega) (show 0 ≤ (at_ : Int) + 64007 by omega) (by omega)
          have b2 := mul_bd (A := 100000 * 91009) (B := 100000) (show 0 ≤ 91009 * (at_ : Int) by omega) (by omega) (show 0 ≤ (at_ : Int) by omega) (by omega)
          refine r_I (show CPow _ _ from ⟨by decide, by decide, by omega⟩) ?_
          walk_at "rd"
          exact h9 _ (Int.emod_nonneg _ (by omega)) (Int.emod_lt_of_pos _ hm0)

end

end K05


namespace K05
open PySem L2 KB KO KY
/-! ### words and blends -/
def W3 (w : Nat) : Prop := w = 8 ∨ w = 16 ∨ w = 32
theorem W3.le {w : Nat} (h : W3 w) : 8 ≤ w ∧ w ≤ 32 := by
  rcases h with rfl | rfl | rfl <;> decide
theorem W3.pow {w : Nat} (h : W3 w) : 2 ^ w ≤ 4294967296 := by
  rcases h with rfl | rfl | rfl <;> decide
def isIntD : Dt → Bool
  | .sc (.int _) => true
  | _ => false
def isBoolD : Dt → Bool
  | .sc (.bl _) => true
  | _ => false
def isW : Dt → Bool
  | .sc (.int i) => decide (i = 8 ∨ i = 16 ∨ i = 32)
  | _ => false
def isWord (w : Nat) : Dt → Bool
  | .sc (.int i) => decide (0 ≤ i ∧ i < (2 ^ w : Nat))
  | _ => false
def isShift (w : Nat) : Dt → Bool
  | .sc (.int i) => decide (0 - (w : Int) ≤ i ∧ i ≤ w)
  | _ => false
theorem isIntD_of {t : Dt} (h : isIntD t = true) : ∃ i, t = .sc (.int i) := by
  cases t with
  | sc s => cases s with
    | int i => exact ⟨i, rfl⟩
    | non => cases h
    | bl => cases h
    | str => cases h
  | tup => cases h
  | lst => cases h
  | dct => cases h
theorem isW_of {t : Dt} (h : isW t = true) : ∃ w : Nat, W3 w ∧ t = .sc (.int w) := by
  cases t with
  | sc s => cases s with
    | int i =>
      have h' : i = 8 ∨ i = 16 ∨ i = 32 := of_decide_eq_true h
      rcases h' with rfl | rfl | rfl
      · exact ⟨8, .inl rfl, rfl⟩
      · exact ⟨16, .inr (.inl rfl), rfl⟩
      · exact ⟨32, .inr (.inr rfl), rfl⟩
    | non => cases h
    | bl => cases h
    | str => cases h
  | tup => cases h
  | lst => cases h
  | dct => cases h
theorem isWord_of {w : Nat} {t : Dt} (h : isWord w t = true) : ∃ n : Nat, n < 2 ^ w ∧ t = .sc (.int n) := by
  cases t with
  | sc s => cases s with
    | int i =>
      have h' : 0 ≤ i ∧ i < (2 ^ w : Nat) := of_decide_eq_true h
      exact ⟨i.toNat, by omega, by rw [show ((i.toNat : Nat) : Int) = i by omega]⟩
    | non => cases h
    | bl => cases h
    | str => cases h
  | tup => cases h
  | lst => cases h
  | dct => cases h
theorem isShift_of {w : Nat} {t : Dt} (h : isShift w t = true) : ∃ s : Int, 0 - (w : Int) ≤ s ∧ s ≤ w ∧ t = .sc (.int s) := by
  cases t with
  | sc s => cases s with
    | int i =>
      have h' : 0 - (w : Int) ≤ i ∧ i ≤ w := of_decide_eq_true h
      exact ⟨i, h'.1, h'.2, rfl⟩
    | non => cases h
    | bl => cases h
    | str => cases h
  | tup => cases h
  | lst => cases h
  | dct => cases h
theorem isWord_nat {w n : Nat} (h : n < 2 ^ w) : isWord w (.sc (.int n)) = true := decide_eq_true ⟨by omega, by omega⟩
theorem isW_nat {w : Nat} (h : W3 w) : isW (.sc (.int w)) = true := by
  rcases h with rfl | rfl | rfl <;> rfl
theorem noInt_noW {t : Dt} (h : isIntD t = false) : isW t = false ∧ (∀ w, isWord w t = false) ∧ ∀ w, isShift w t = false := by
  cases t with
  | sc s => cases s with
    | int i => cases h
    | non => exact ⟨rfl, fun _ => rfl, fun _ => rfl⟩
    | bl => exact ⟨rfl, fun _ => rfl, fun _ => rfl⟩
    | str => exact ⟨rfl, fun _ => rfl, fun _ => rfl⟩
  | tup => exact ⟨rfl, fun _ => rfl, fun _ => rfl⟩
  | lst => exact ⟨rfl, fun _ => rfl, fun _ => rfl⟩
  | dct => exact ⟨rfl, fun _ => rfl, fun _ => rfl⟩
theorem r_isIntD {K : PySem.W.Frag} {H : Hp} {Q : VK} {v : V} {t : Dt} (h : OdAt H v t) (q : Q (.bl (isIntD t || isBoolD t)) H) : rIsi K [v, .ty "int"] H Q := by
  refine ⟨v, .ty "int", _, .type "int", isIntD t || isBoolD t, rfl, .ty _, h.tyX, ?_, q⟩
  have h1 : kitB "NoneType" "int" = some false ∧ kitB "bool" "int" = some true ∧ kitB "int" "int" = some true ∧ kitB "str" "int" = some false ∧ kitB "tuple" "int" = some false ∧ kitB "list" "int" = some false ∧ kitB "dict" "int" = some false := by decide +kernel
  cases t with
  | sc s =>
    cases s with
    | non => exact kit_ty h1.1
    | bl b => exact kit_ty h1.2.1
    | int i => exact kit_ty h1.2.2.1
    | str x => exact kit_ty h1.2.2.2.1
  | tup l => exact kit_ty h1.2.2.2.2.1
  | lst l => exact kit_ty h1.2.2.2.2.2.1
  | dct l => exact kit_ty h1.2.2.2.2.2.2
theorem r_isBoolD {K : PySem.W.Frag} {H : Hp} {Q : VK} {v : V} {t : Dt} (h : OdAt H v t) (q : Q (.bl (isBoolD t)) H) : rIsi K [v, .ty "bool"] H Q := by
  refine ⟨v, .ty "bool", _, .type "bool", isBoolD t, rfl, .ty _, h.tyX, ?_, q⟩
  have h1 : kitB "NoneType" "bool" = some false ∧ kitB "bool" "bool" = some true ∧ kitB "int" "bool" = some false ∧ kitB "str" "bool" = some false ∧ kitB "tuple" "bool" = some false ∧ kitB "list" "bool" = some false ∧ kitB "dict" "bool" = some false := by decide +kernel
  cases t with
  | sc s =>
    cases s with
    | non => exact kit_ty h1.1
    | bl b => exact kit_ty h1.2.1
    | int i => exact kit_ty h1.2.2.1
    | str x => exact kit_ty h1.2.2.2.1
  | tup l => exact kit_ty h1.2.2.2.2.1
  | lst l => exact kit_ty h1.2.2.2.2.2.1
  | dct l => exact kit_ty h1.2.2.2.2.2.2
/-- what the text's classes are -/
structure TxtB (K : PySem.W.Frag) (mg : Str → Option Value) (C aW : Addr) : Prop extends Txt mg where
  cl : Cls K C
  n_width : NoAttr K C "width"
  n_shift : NoAttr K C "shift"
  n_keep : NoAttr K C "keep"
  n_flip : NoAttr K C "flip"
  mg_Blend : mg "Blend" = some (.ref C)
  mg_WIDTHS : mg "WIDTHS" = some (.ref aW)
  widths : ∀ H, SqT K H aW (([8, 16, 32] : List Int).map V.int)
def flB (w s k f : Int) : List (Str × V) := [("width", .int w), ("shift", .int s), ("keep", .int k), ("flip", .int f)]
theorem fb_w {w s k f : Int} : (flB w s k f).lookup ("width" : Str) = some (.int w) := rfl
theorem fb_s {w s k f : Int} : (flB w s k f).lookup ("shift" : Str) = some (.int s) := rfl
theorem fb_k {w s k f : Int} : (flB w s k f).lookup ("keep" : Str) = some (.int k) := rfl
theorem fb_f {w s k f : Int} : (flB w s k f).lookup ("flip" : Str) = some (.int f) := rfl
/-- the blend of the width w: its numbers -/
structure Nm (w : Nat) (s : Int) (k f : Nat) : Prop where
  w3 : W3 w
  lo : 0 - (w : Int) ≤ s
  hi : s ≤ w
  kl : k < 2 ^ w
  fl : f < 2 ^ w
def BlendAt (C : Addr) (H : Hp) (p : Addr) (w : Nat) (s : Int) (k f : Nat) : Prop := Nm w s k f ∧ ∃ dx, H p = some (.ins C dx (flB w s k f))
theorem BlendAt.up {C : Addr} {H H' : Hp} {p : Addr} {w : Nat} {s : Int} {k f : Nat} (h : BlendAt C H p w s k f) (e : Same H H') : BlendAt C H' p w s k f := by
  obtain ⟨n, dx, g⟩ := h
  exact ⟨n, dx, e _ _ g⟩
def spInt : Sp := fun vs H Q _ => ∃ (v : V) (t : Dt), vs = [v] ∧ OdAt H v t ∧ Q (.bl (isIntD t)) H
def spNW (CE : Addr) : Sp := fun vs H Q E => ∃ (v : V) (t : Dt), vs = [v] ∧ OdAt H v t ∧ (isW t = true → Q .non H) ∧ (isW t = false → ∀ d H', Same H H' → H' d = some (.xd [("value", v)]) → E (.ref CE) (some d) H')
def spOnes : Sp := fun vs H Q _ => ∃ w : Nat, vs = [.int w] ∧ w ≤ 32 ∧ Q (.int (KBL.onesN w : Nat)) H
def spIsWord : Sp := fun vs H Q _ => ∃ (w : Nat) (v : V) (t : Dt), vs = [.int w, v] ∧ W3 w ∧ OdAt H v t ∧ Q (.bl (isWord w t)) H
def spNeed (CE : Addr) : Sp := fun vs H Q E => ∃ (w : Nat) (v : V) (t : Dt), vs = [.int w, v] ∧ W3 w ∧ OdAt H v t ∧ (isWord w t = true → Q .non H) ∧ (isWord w t = false → ∀ d H', Same H H' → H' d = some (.xd [("value", v)]) → E (.ref CE) (some d) H')
def spSh : Sp := fun vs H Q _ => ∃ (w v : Nat) (s : Int), vs = [.int v, .int w, .int s] ∧ W3 w ∧ v < 2 ^ w ∧ 0 - (w : Int) ≤ s ∧ s ≤ w ∧ Q (.int (KBL.shN w v s : Nat)) H
/-- the mask that is meant -/
def maskOf (w : Nat) : Dt → Nat
  | .sc (.int i) => i.toNat
  | _ => KBL.onesN w
def isNoneD : Dt → Bool
  | .sc .non => true
  | _ => false
/-- Blend(v1, v2, v3, v4); cW, cS, cR: InvalidWidth, InvalidShift, InvalidWord -/
def spBlend (C cW cS cR : Addr) : Sp := fun vs H Q E => ∃ (p dx : Addr) (v1 v2 v3 v4 : V) (t1 t2 t3 t4 : Dt), vs = [.ref p, v1, v2, v3, v4] ∧ H p = some (.ins C dx []) ∧ OdAt H v1 t1 ∧ OdAt H v2 t2 ∧ OdAt H v3 t3 ∧ OdAt H v4 t4 ∧
  (isW t1 = false → ∀ d H', Same H H' → H' d = some (.xd [("value", v1)]) → E (.ref cW) (some d) H') ∧
  (∀ w : Nat, t1 = .sc (.int w) → W3 w → isShift w t2 = false → ∀ d H', Same H H' → H' d = some (.xd [("value", v2)]) → E (.ref cS) (some d) H') ∧
  (∀ w : Nat, t1 = .sc (.int w) → W3 w → isShift w t2 = true → isNoneD t3 = false → isWord w t3 = false → ∀ d H', Same H H' → H' d = some (.xd [("value", v3)]) → E (.ref cR) (some d) H') ∧
  (∀ w : Nat, t1 = .sc (.int w) → W3 w → isShift w t2 = true → (isNoneD t3 = true ∨ isWord w t3 = true) → isWord w t4 = false → ∀ d H', Same H H' → H' d = some (.xd [("value", v4)]) → E (.ref cR) (some d) H') ∧
  (∀ (w : Nat) (s : Int) (f : Nat), t1 = .sc (.int w) → t2 = .sc (.int s) → t4 = .sc (.int f) → (isNoneD t3 = true ∨ isWord w t3 = true) → Nm w s (KBL.keepN w s (maskOf w t3)) f → ∀ H', BlendAt C H' p w (KBL.shiftN w s (maskOf w t3)) (KBL.keepN w s (maskOf w t3)) f → Keep p H H' → Q .non H')
def spBEq (K : PySem.W.Frag) (C : Addr) : Sp := fun vs H Q _ => (∃ (p p' : Addr) (w w' : Nat) (s s' : Int) (k k' f f' : Nat), vs = [.ref p, .ref p'] ∧ BlendAt C H p w s k f ∧ BlendAt C H p' w' s' k' f' ∧ Q (.bl (decide (w = w' ∧ s = s' ∧ k = k' ∧ f = f'))) H) ∨
  ∃ (p : Addr) (y : V) (w : Nat) (s : Int) (k f : Nat) (T : String), vs = [.ref p, y] ∧ BlendAt C H p w s k f ∧ TyX K H y (.type T) ∧ PySem.W.kitOne K (.type T) (.ref C) = some false ∧ Q (.bl false) H
def spBRepr (C : Addr) : Sp := fun vs H Q _ => ∃ (p : Addr) (w : Nat) (s : Int) (k f : Nat), vs = [.ref p] ∧ BlendAt C H p w s k f ∧ Q (.str (KBL.bText w s k f)) H
def spBCall (C cR : Addr) : Sp := fun vs H Q E => ∃ (p : Addr) (w : Nat) (s : Int) (k f : Nat) (v : V) (t : Dt), vs = [.ref p, v] ∧ BlendAt C H p w s k f ∧ OdAt H v t ∧
  (∀ n : Nat, n < 2 ^ w → t = .sc (.int n) → Q (.int ((f ^^^ (k &&& KBL.shN w n s) : Nat) : Int)) H) ∧ (isWord w t = false → ∀ d H', Same H H' → H' d = some (.xd [("value", v)]) → E (.ref cR) (some d) H')
theorem non_of {H : Hp} {v : V} {t : Dt} (h : OdAt H v t) : (isNoneD t = true → v = .non) ∧ (isNoneD t = false → v ≠ .non) := by
  cases t with
  | sc s =>
    obtain rfl : v = s.v := h
    cases s with
    | non => exact ⟨fun _ => rfl, fun z => by cases z⟩
    | bl => exact ⟨(fun z => by cases z), fun _ z => by cases z⟩
    | int => exact ⟨(fun z => by cases z), fun _ z => by cases z⟩
    | str => exact ⟨(fun z => by cases z), fun _ z => by cases z⟩
  | tup l => obtain ⟨a, rfl, _⟩ := h; exact ⟨(fun z => by cases z), fun _ z => by cases z⟩
  | lst l => obtain ⟨a, rfl, _⟩ := h; exact ⟨(fun z => by cases z), fun _ z => by cases z⟩
  | dct l => obtain ⟨a, rfl, _⟩ := h; exact ⟨(fun z => by cases z), fun _ z => by cases z⟩
theorem keep_ones (w : Nat) (s : Int) : KBL.shN w (KBL.onesN w) s = KBL.keepN w s (KBL.onesN w) := by
  unfold KBL.keepN
  conv => rhs; rw [show KBL.onesN w = 2 ^ w - 1 from rfl]
  rw [Nat.and_two_pow_sub_one_eq_mod]
  exact (Nat.mod_eq_of_lt (KBL.sh_lt (KBL.ones_lt w))).symm
theorem isShift_int (w : Nat) (i : Int) : isShift w (.sc (.int i)) = decide (0 - (w : Int) ≤ i ∧ i ≤ w) := rfl
theorem numBits {w : Nat} {s : Int} {k f : Nat} (h : Nm w s k f) : (w : Int).natAbs.log2 < 1920 ∧ s.natAbs.log2 < 1920 ∧ (k : Int).natAbs.log2 < 1920 ∧ (f : Int).natAbs.log2 < 1920 := by
  have small : ∀ n : Nat, n < 4294967297 → n.log2 < 1920 := fun n hn => by
    by_cases z : n = 0
    · rw [z]; decide
    · exact (Nat.log2_lt z).mpr (Nat.lt_of_lt_of_le hn (by
        have : (4294967297 : Nat) ≤ 2 ^ 33 := by decide
        exact Nat.le_trans this (Nat.pow_le_pow_right (by decide) (by decide))))
  have wp := h.w3.pow
  have wl := h.w3.le
  have := h.lo
  have := h.hi
  have := h.kl
  have := h.fl
  exact ⟨small _ (by omega), small _ (by omega), small _ (by omega), small _ (by omega)⟩
/-! ### {8: a, 16: b, 32: c}[w] -/
def pickW (w : Nat) (a b c : Int) : Int := if w = 8 then a else if w = 16 then b else c
theorem wdict_val {w : Nat} (w3 : W3 w) (a b c : Int) : valV (mergeK [] [((Sum.inl 8 : Key), V.int a), (Sum.inl 16, .int b), (Sum.inl 32, .int c)]) (Sum.inl (w : Int)) = some (.int (pickW w a b c)) := by
  rcases w3 with rfl | rfl | rfl <;> rfl
theorem r_wdict {σ : L2.St} {H : Hp} {Q : VK} {a b c : Int} {tk : TE} {w : Nat} (w3 : W3 w) (hk : ∀ (H' : Hp) (Q' : VK), Q' (.int w) H' → tk σ H' Q') (q : ∀ H', Same H H' → Q (.int (pickW w a b c)) H') :
    ∀ p, H p = none → tPairs [(tC (.int 8), tC (.int a)), (tC (.int 16), tC (.int b)), (tC (.int 32), tC (.int c))] σ (upd H p (.dK [])) fun ps H2 => H2 p = some (.dK []) ∧ ∃ kvs : List (Key × V), ps = kvs.map (fun kv => (kV kv.1, kv.2)) ∧ kvs.length ≤ 15 ∧
      tk σ (upd H2 p (.dK (mergeK [] kvs))) fun y H2 => ∃ a v, V.ref p = .ref a ∧ DGet H2 a y (some v) ∧ Q v H2 := by
  intro p np
  refine ⟨upd_same, [(.inl 8, .int a), (.inl 16, .int b), (.inl 32, .int c)], rfl, by simp, hk _ _ ⟨p, _, rfl, ?_, q _ ?_⟩⟩
  · exact wdict_val w3 a b c ▸ DGet.k (k := .inl (w : Int)) upd_same
  · exact same_mut (same_new np) np
theorem mono_var1 {i : Nat} {v : V} {σ : L2.St} (h : σ[i]? = some (some v)) (H : Hp) (Q : VK) (q : Q v H) : tVar i σ H Q := ⟨v, h, q⟩
theorem top_is {w : Nat} (w3 : W3 w) : pickW w 255 65535 4294967295 = ((KBL.onesN w : Nat) : Int) := by
  rcases w3 with rfl | rfl | rfl <;> rfl


section
variable {P : Program} {w : World} {K : PySem.W.Frag} {mg : Str → Option Value} {base : Heap}
theorem ok_int {f : Addr} {fd : FuncData} {k : Nat} (F : Fun K "is_integer" "is_integer" s_is_integer f fd) (T : Txt mg) : FnOk P w K mg base CX0 (k + 1) f fd ["value"] spInt := by
  refine F.ok sc_is_integer (fun vs H Q E h => ?_) (fun cdv A outer s H vs Q E hr h => ?_)
  · obtain ⟨v, t, rfl, _⟩ := h
    rfl
  · obtain ⟨v, t, rfl, od, q⟩ := h
    refine ⟨_, (pss_one (ps_ret (pe_and (pe_callB call_isi (by rfl) T.z_isinstance (by decide +kernel) (pa_cons (pv 0) (pa_cons (pe_bltn (v := .ty "int") (by rfl) T.z_int (by decide +kernel) rfl) pa_nil))) (pe_one (pe_not (pe_callB call_isi (by rfl) T.z_isinstance (by decide +kernel) (pa_cons (pv 0) (pa_cons (pe_bltn (v := .ty "bool") (by rfl) T.z_bool (by decide +kernel) rfl) pa_nil)))))))), at_start (σ := [some v]) rfl ?_⟩
    try dsimp only [cx_K]
    walk_at "rd"
    refine r_isIntD od ?_
    walk_at "rd"
    refine r_iteB (fun h => ?_) (fun h => ?_)
    · walk_at "rd"
      refine r_isBoolD od ?_
      walk_at "rd"
      have e : (!isBoolD t) = isIntD t := by
        cases t with
        | sc s => cases s <;> first | rfl | cases h
        | tup => cases h
        | lst => cases h
        | dct => cases h
      rw [e]
      exact q
    · have e : isIntD t = false := by
        cases hh : isIntD t with
        | false => rfl
        | true => rw [hh] at h; cases h
      rw [e] at q
      walk_at "rd"
      exact q
theorem ok_nw {f C aW CE : Addr} {fd : FuncData} (F : Fun K "need_width" "need_width" s_need_width f fd) (T : TxtB K mg C aW) (e_InvalidWidth : KX.ErrMk P w K mg base CE "InvalidWidth" "value") (c_is_integer : KB.Callee P w K mg base CX0 1 "is_integer" ["value"] spInt) : FnOk P w K mg base (L2.CX P w) 3 f fd ["width"] (spNW CE) := by
  refine F.okX sc_need_width (fun vs H Q E h => ?_) (fun cdv A outer s H vs Q E hr h => ?_)
  · obtain ⟨v, t, rfl, _⟩ := h
    rfl
  · obtain ⟨v, t, rfl, od, q, x⟩ := h
    refine ⟨_, (pss_one (ps_if (PW.pt (pw_or (pt_not (pt_val (pe_callC c_is_integer (hr.mono (by decide)) (by rfl) pass0 (pa_cons (pv 0) pa_nil)))) (pw_or1 (pt_cmpR op_notIn_seq (pv 0) (pe_glob (v := .ref _) (by rfl) T.mg_WIDTHS rfl) (by rfl))))) (pss_one (ps_raise rfl KL.def_takes (KX.pmkC e_InvalidWidth (hr.mono (by decide)) (by rfl) (pa_cons (pv 0) pa_nil))))
 pss_nil)), at_start (σ := [some v]) rfl ?_⟩
    try dsimp only [KC.cx_KX]
    walk_at "rd"
    refine ⟨v, t, rfl, od, ?_⟩
    walk_at "rd"
    refine r_iteBN (fun z => ?_) (fun z => ?_)
    · walk_at "rd"
      refine KX.r_raiseO ?_ KX.mono_var
      walk_at "rd"
      exact fun d H' sm hd => x (noInt_noW z).1 d H' sm hd
    · obtain ⟨i, rfl⟩ := isIntD_of z
      obtain rfl : v = .int i := od
      walk_at "rd"
      refine r_notInI (zs := [8, 16, 32]) (.inr (T.widths _)) ?_
      walk_at "rd"
      refine r_iteN2 (fun h => ?_) (fun h => ?_)
      · walk_at "rd"
        refine KX.r_raiseO ?_ KX.mono_var
        walk_at "rd"
        exact fun d H' sm hd => x (decide_eq_false (fun y => h (by simpa using y))) d H' sm hd
      · walk_at "rd"
        exact q (decide_eq_true (by simpa using h))
theorem ok_ones {f : Addr} {fd : FuncData} {k : Nat} (F : Fun K "ones" "ones" s_ones f fd) : FnOk P w K mg base CX0 (k + 1) f fd ["width"] spOnes := by
  refine F.ok sc_ones (fun vs H Q E h => ?_) (fun cdv A outer s H vs Q E hr h => ?_)
  · obtain ⟨v, rfl, _⟩ := h
    rfl
  · obtain ⟨w, rfl, hw, q⟩ := h
    refine ⟨_, (pss_one (ps_ret (pe_op op_sub (pe_op op_shl pe_int (pv 0)) pe_int))), at_start (σ := [some (.int w)]) rfl ?_⟩
    try dsimp only [cx_K]
    walk_at "rd"
    have e : ((1 : Int) * 2 ^ ((w : Int)).toNat - 1) = ((KBL.onesN w : Nat) : Int) := by
      have := Nat.two_pow_pos w
      unfold KBL.onesN
      rw [Int.toNat_natCast, Int.one_mul, Int.natCast_sub (by omega), Int.natCast_pow]
      rfl
    rw [e]
    exact q
theorem ok_sh {f : Addr} {fd : FuncData} (F : Fun K "shifted" "shifted" s_shifted f fd) (c_ones : KB.Callee P w K mg base CX0 1 "ones" ["width"] spOnes) : FnOk P w K mg base CX0 2 f fd ["value", "width", "shift"] spSh := by
  refine F.ok sc_shifted (fun vs H Q E h => ?_) (fun cdv A outer s H vs Q E hr h => ?_)
  · obtain ⟨w, v, s, rfl, _⟩ := h
    rfl
  · obtain ⟨w, v, s, rfl, w3, hv, lo, hi, q⟩ := h
    have wl := w3.le
    have wp := w3.pow
    unfold KBL.shN at q
    refine ⟨_, (pss_cons (ps_if (pt_cmpR op_lt (pv 2) pe_int (nomark _)) (pss_one (ps_ret (pe_op op_shr (pv 0) (pe_op op_sub pe_int (pv 2)))))
 pss_nil)
 (pss_one (ps_ret (pe_op op_and (pe_op op_shl (pv 0) (pv 2)) (pe_callC c_ones (hr.mono (by decide)) (by rfl) pass0 (pa_cons (pv 1) pa_nil)))))), at_start (σ := [some (.int v), some (.int w), some (.int s)]) rfl ?_⟩
    try dsimp only [cx_K]
    walk_at "rd"
    refine r_ite2 (fun h => ?_) (fun h => ?_)
    · rw [if_pos h] at q
      walk_at "rd"
      rw [KBL.ofShr]
      exact q
    · rw [if_neg h] at q
      walk_at "rd"
      refine ⟨w, rfl, wl.2, ?_⟩
      walk_at "rd"
      rw [KBL.shl_and]
      exact q
theorem ok_isword {f C aW CE : Addr} {fd : FuncData} (F : Fun K "is_word" "is_word" s_is_word f fd) (c_need_width : KB.Callee P w K mg base (L2.CX P w) 3 "need_width" ["width"] (spNW CE)) (c_is_integer : KB.Callee P w K mg base CX0 1 "is_integer" ["value"] spInt) (c_ones : KB.Callee P w K mg base CX0 1 "ones" ["width"] spOnes) : FnOk P w K mg base CX0 4 f fd ["width", "value"] spIsWord := by
  refine F.ok sc_is_word (fun vs H Q E h => ?_) (fun cdv A outer s H vs Q E hr h => ?_)
  · obtain ⟨w, v, t, rfl, _⟩ := h
    rfl
  · obtain ⟨w, v, t, rfl, w3, od, q⟩ := h
    have wl := w3.le
    refine ⟨_, (pss_cons (ps_expr (pe_callC c_need_width (hr.mono (by decide)) (by rfl) passL (pa_cons (pv 0) pa_nil)))
 (pss_one (ps_ret (pe_and (pe_callC c_is_integer (hr.mono (by decide)) (by rfl) pass0 (pa_cons (pv 1) pa_nil)) (pe_one (pe_chain op_le op_le pe_int (pv 1) (pe_callC c_ones (hr.mono (by decide)) (by rfl) pass0 (pa_cons (pv 0) pa_nil)))))))), at_start (σ := [some (.int w), some v]) rfl ?_⟩
    try dsimp only [cx_K]
    walk_at "rd"
    refine ⟨_, .sc (.int w), rfl, rfl, fun _ => ?_, fun z => by rw [isW_nat w3] at z; cases z⟩
    walk_at "rd"
    refine ⟨v, t, rfl, od, ?_⟩
    walk_at "rd"
    refine r_iteB (fun z => ?_) (fun z => ?_)
    · obtain ⟨i, rfl⟩ := isIntD_of z
      obtain rfl : v = .int i := od
      walk_at "rd"
      have e : isWord w (.sc (.int i)) = decide (0 ≤ i ∧ i ≤ (KBL.onesN w : Nat)) := by
        have := Nat.two_pow_pos w
        show decide (0 ≤ i ∧ i < (2 ^ w : Nat)) = _
        unfold KBL.onesN
        by_cases h : 0 ≤ i ∧ i < (2 ^ w : Nat)
        · rw [decide_eq_true h, decide_eq_true (by omega)]
        · rw [decide_eq_false h, decide_eq_false (by omega)]
      rw [e] at q
      refine KC.r_chain ?_
      walk_at "rd"
      refine r_ite2 (fun h => ?_) (fun h => ?_)
      · walk_at "rd"
        refine ⟨w, rfl, wl.2, ?_⟩
        walk_at "rd"
        have e2 : decide (i ≤ ((KBL.onesN w : Nat) : Int)) = decide (0 ≤ i ∧ i ≤ (KBL.onesN w : Nat)) := by
          by_cases h2 : i ≤ ((KBL.onesN w : Nat) : Int)
          · rw [decide_eq_true h2, decide_eq_true ⟨h, h2⟩]
          · rw [decide_eq_false h2, decide_eq_false (fun y => h2 y.2)]
        rw [e2]
        exact q
      · walk_at "rd"
        rw [decide_eq_false (fun y => h y.1)] at q
        exact q
    · walk_at "rd"
      rw [(noInt_noW z).2.1 w] at q
      exact q
theorem ok_need {f CE : Addr} {fd : FuncData} (F : Fun K "need_word" "need_word" s_need_word f fd) (e_InvalidWord : KX.ErrMk P w K mg base CE "InvalidWord" "value") (c_is_word : KB.Callee P w K mg base CX0 4 "is_word" ["width", "value"] spIsWord) : FnOk P w K mg base (L2.CX P w) 5 f fd ["width", "value"] (spNeed CE) := by
  refine F.okX sc_need_word (fun vs H Q E h => ?_) (fun cdv A outer s H vs Q E hr h => ?_)
  · obtain ⟨w, v, t, rfl, _⟩ := h
    rfl
  · obtain ⟨w, v, t, rfl, w3, od, q, x⟩ := h
    refine ⟨_, (pss_one (ps_if (pt_not (pt_val (pe_callC c_is_word (hr.mono (by decide)) (by rfl) pass0 (pa_cons (pv 0) (pa_cons (pv 1) pa_nil))))) (pss_one (ps_raise rfl KL.def_takes (KX.pmkC e_InvalidWord (hr.mono (by decide)) (by rfl) (pa_cons (pv 1) pa_nil))))
 pss_nil)), at_start (σ := [some (.int w), some v]) rfl ?_⟩
    try dsimp only [KC.cx_KX]
    walk_at "rd"
    refine ⟨w, v, t, rfl, w3, od, ?_⟩
    walk_at "rd"
    refine r_iteBN (fun z => ?_) (fun z => ?_)
    · walk_at "rd"
      refine KX.r_raiseO ?_ KX.mono_var
      walk_at "rd"
      exact fun d H' sm hd => x z d H' sm hd
    · walk_at "rd"
      exact q z
theorem ok_blend {f C aW cW cS cR : Addr} {fd : FuncData} (F : FunD K "__init__" "Blend.__init__" (defArgs s_Blend___init__) (defBody s_Blend___init__) (defScope s_Blend___init__) [.int 0, .non, .int 0] [] f fd) (T : TxtB K mg C aW) (e_InvalidShift : KX.ErrMk P w K mg base cS "InvalidShift" "value")
    (c_need_width : KB.Callee P w K mg base (L2.CX P w) 3 "need_width" ["width"] (spNW cW)) (c_is_integer : KB.Callee P w K mg base CX0 1 "is_integer" ["value"] spInt) (c_need_word : KB.Callee P w K mg base (L2.CX P w) 5 "need_word" ["width", "value"] (spNeed cR))
    (c_ones : KB.Callee P w K mg base CX0 1 "ones" ["width"] spOnes) (c_shifted : KB.Callee P w K mg base CX0 2 "shifted" ["value", "width", "shift"] spSh) : FnOk P w K mg base (L2.CX P w) 6 f fd ["self", "width", "shift", "keep", "flip"] (spBlend C cW cS cR) := by
  refine F.ok sc_Blend___init__ (fun vs H Q E h => ?_) (fun cdv A outer s H vs Q E hr h => ?_)
  · obtain ⟨p, dx, v1, v2, v3, v4, t1, t2, t3, t4, rfl, _⟩ := h
    rfl
  · obtain ⟨p, dx, v1, v2, v3, v4, t1, t2, t3, t4, rfl, hp, o1, o2, o3, o4, x1, x2, x3, x4, q⟩ := h
    refine ⟨_, (pss_cons (ps_expr (pe_callC c_need_width (hr.mono (by decide)) (by rfl) (passes_call KL.def_takes fun _ _ _ _ h => h) (pa_cons (pv 1) pa_nil)))
 (pss_cons (ps_if (PW.pt (pw_or (pt_not (pt_val (pe_callC c_is_integer (hr.mono (by decide)) (by rfl) pass0 (pa_cons (pv 2) pa_nil)))) (pw_or1 (pt_not (pt_chain op_le op_le (pe_op op_sub pe_int (pv 1)) (pv 2) (pv 1)))))) (pss_one (ps_raise rfl KL.def_takes (KX.pmkC e_InvalidShift (hr.mono (by decide)) (by rfl) (pa_cons (pv 2) pa_nil))))
 pss_nil)
 (Evl.pss_cut (ps_if (pt_cmpR op_notN (pv 3) pe_non (nomark _)) (pss_one (ps_expr (pe_callC c_need_word (hr.mono (by decide)) (by rfl) (passes_call KL.def_takes fun _ _ _ _ h => h) (pa_cons (pv 1) (pa_cons (pv 3) pa_nil)))))
 pss_nil)
 (pss_cons (ps_expr (pe_callC c_need_word (hr.mono (by decide)) (by rfl) (passes_call KL.def_takes fun _ _ _ _ h => h) (pa_cons (pv 1) (pa_cons (pv 4) pa_nil))))
 (pss_cons (ps_set (i := 5) sc_Blend___init__.nd rfl (by first | exact Or.inl rfl | exact Or.inr rfl) (pe_callC c_shifted (hr.mono (by decide)) (by rfl) pass0 (pa_cons (pe_callC c_ones (hr.mono (by decide)) (by rfl) pass0 (pa_cons (pv 1) pa_nil)) (pa_cons (pv 1) (pa_cons (pv 2) pa_nil)))))
 (Evl.pss_cut (ps_if (pt_cmpR op_notN (pv 3) pe_non (nomark _)) (pss_one (ps_set (i := 5) sc_Blend___init__.nd rfl (by first | exact Or.inl rfl | exact Or.inr rfl) (pe_op op_and (pv 5) (pv 3))))
 pss_nil)
 (pss_cons (ps_fld (pv 0) (pv 1) rfl)
 (pss_cons (ps_fld (pv 0) (pe_ifExp (pt_cmpR op_eq (pv 5) pe_int (nomark _)) pe_int (pv 2)) rfl)
 (pss_cons (ps_fld (pv 0) (pv 5) rfl)
 (pss_one (ps_fld (pv 0) (pv 4) rfl))))))))))), at_start (σ := [some (.ref p), some v1, some v2, some v3, some v4, none]) rfl ?_⟩
    try dsimp only [KC.cx_KX]
    walk_at "rd"
    refine ⟨v1, t1, rfl, o1, fun hw => ?_, fun hw d H' sm hd => x1 hw d H' sm hd⟩
    obtain ⟨w, w3, rfl⟩ := isW_of hw
    obtain rfl : v1 = .int w := o1
    replace x2 := x2 w rfl w3
    replace x3 := x3 w rfl w3
    replace x4 := x4 w rfl w3
    walk_at "rd"
    refine ⟨v2, t2, rfl, o2, ?_⟩
    walk_at "rd"
    refine r_iteBN (fun z => ?_) (fun z => ?_)
    · walk_at "rd"
      refine KX.r_raiseO ?_ KX.mono_var
      walk_at "rd"
      exact fun d H' sm hd => x2 ((noInt_noW z).2.2 w) d H' sm hd
    obtain ⟨sh, rfl⟩ := isIntD_of z
    obtain rfl : v2 = .int sh := o2
    walk_at "rd"
    refine KC.r_chain ?_
    walk_at "rd"
    have bad : ¬ (0 - (w : Int) ≤ sh ∧ sh ≤ w) → ∀ (d : Addr) (H' : Hp), Same H H' → H' d = some (.xd [("value", .int sh)]) → E (.ref cS) (some d) H' := fun y => x2 (decide_eq_false y)
    refine r_ite2 (fun lo => ?_) (fun lo => ?_)
    rotate_left
    · walk_at "rd"
      refine KX.r_raiseO ?_ KX.mono_var
      walk_at "rd"
      exact bad fun y => lo y.1
    walk_at "rd"
    refine r_iteN2 (fun hi => ?_) (fun hi => ?_)
    · walk_at "rd"
      refine KX.r_raiseO ?_ KX.mono_var
      walk_at "rd"
      exact bad fun y => hi y.2
    have yes : isShift w (.sc (.int sh)) = true := decide_eq_true ⟨lo, hi⟩
    replace x3 := x3 yes
    replace x4 := x4 yes
    clear x1 x2 bad
    obtain ⟨nn1, nn2⟩ := non_of o3
    walk_at "rd"
    refine ⟨fun σ' H' => σ' = [some (.ref p), some (.int w), some (.int sh), some v3, some v4, none] ∧ H' = H ∧ (isNoneD t3 = true ∨ isWord w t3 = true), ?_, ?_⟩
    · walk_at "rd"
      refine r_iteN2 (fun hn => ?_) (fun hn => ?_)
      · have hn' : isNoneD t3 = false := by
          cases e : isNoneD t3 with
          | false => rfl
          | true => exact absurd (nn1 e) hn
        walk_at "rd"
        refine ⟨w, v3, t3, rfl, w3, o3, fun y => ?_, fun y d H' sm hd => x3 hn' y d H' sm hd⟩
        exact ⟨rfl, rfl, .inr y⟩
      · have hn' : isNoneD t3 = true := by
          cases e : isNoneD t3 with
          | true => rfl
          | false => exact absurd hn (nn2 e)
        walk_at "rd"
        exact ⟨rfl, rfl, .inl hn'⟩
    rintro σ' H' ⟨rfl, rfl, hm⟩
    replace x4 := x4 hm
    clear x3
    walk_at "rd"
    refine ⟨w, v4, t4, rfl, w3, o4, fun y => ?_, fun y d H'' sm hd => x4 y d H'' sm hd⟩
    obtain ⟨f4, fl, rfl⟩ := isWord_of y
    obtain rfl : v4 = .int f4 := o4
    clear x4
    walk_at "rd"
    refine ⟨w, rfl, w3.le.2, ?_⟩
    walk_at "rd"
    refine ⟨w, KBL.onesN w, sh, rfl, w3, KBL.ones_lt w, lo, hi, ?_⟩
    walk_at "rd"
    refine ⟨fun σ' H'' => σ' = [some (.ref p), some (.int w), some (.int sh), some v3, some (.int f4), some (.int ((KBL.keepN w sh (maskOf w t3) : Nat) : Int))] ∧ H'' = H', ?_, ?_⟩
    · walk_at "rd"
      refine r_iteN2 (fun hn => ?_) (fun hn => ?_)
      · obtain ⟨n3, l3, rfl⟩ : ∃ n : Nat, n < 2 ^ w ∧ t3 = .sc (.int n) := by
          rcases hm with y | y
          · exact absurd (nn1 y) hn
          · exact isWord_of y
        obtain rfl : v3 = .int n3 := o3
        walk_at "rd"
        rw [KBL.bAnd]
        exact ⟨rfl, rfl⟩
      · have e3 : maskOf w t3 = KBL.onesN w := by
          rcases hm with y | y
          · cases t3 with
            | sc s => cases s <;> first | rfl | cases y
            | tup => rfl
            | lst => rfl
            | dct => rfl
          · obtain ⟨n, _, rfl⟩ := isWord_of y
            obtain rfl : v3 = .int n := o3
            cases hn
        walk_at "rd"
        rw [keep_ones, ← e3]
        exact ⟨rfl, rfl⟩
    rintro σ' H'' ⟨rfl, rfl⟩
    have nm : Nm w sh (KBL.keepN w sh (maskOf w t3)) f4 := ⟨w3, lo, hi, KBL.keep_lt _ _ _, fl⟩
    replace q := q w sh f4 rfl rfl rfl hm nm
    walk_at "rd"
    refine ⟨p, C, dx, _, rfl, hp, T.cl, T.n_width, (by decide), ?_⟩
    walk_at "rd"
    have fin : ∀ s' : Int, s' = KBL.shiftN w sh (maskOf w t3) → Q .non (upd (upd (upd (upd H'' p (.ins C dx (putF "width" (.int w) []))) p (.ins C dx (putF "shift" (.int s') (putF "width" (.int w) [])))) p (.ins C dx (putF "keep" (.int ((KBL.keepN w sh (maskOf w t3) : Nat) : Int)) (putF "shift" (.int s') (putF "width" (.int w) []))))) p (.ins C dx (putF "flip" (.int f4) (putF "keep" (.int ((KBL.keepN w sh (maskOf w t3) : Nat) : Int)) (putF "shift" (.int s') (putF "width" (.int w) [])))))) := by
      intro s' e
      subst e
      have nm2 : Nm w (KBL.shiftN w sh (maskOf w t3)) (KBL.keepN w sh (maskOf w t3)) f4 := by
        refine ⟨w3, ?_, ?_, nm.kl, fl⟩
        · unfold KBL.shiftN; split <;> omega
        · unfold KBL.shiftN; split <;> omega
      refine q _ ⟨nm2, dx, upd_same⟩ fun b o e hb => ?_
      rw [upd_ne hb, upd_ne hb, upd_ne hb, upd_ne hb]
      exact e
    refine r_ite2 (fun h => ?_) (fun h => ?_)
    · have h' : KBL.keepN w sh (maskOf w t3) = 0 := by have := V.int.inj h; omega
      walk_at "rd"
      refine ⟨p, C, dx, _, rfl, upd_same, T.cl, T.n_shift, putF_lt0 (by decide), ?_⟩
      walk_at "rd"
      refine ⟨p, C, dx, _, rfl, upd_same, T.cl, T.n_keep, putF_lt0 (putF_lt (by decide)), ?_⟩
      walk_at "rd"
      refine ⟨p, C, dx, _, rfl, upd_same, T.cl, T.n_flip, putF_lt0 (putF_lt (putF_lt (by decide))), ?_⟩
      exact fin 0 (by unfold KBL.shiftN; rw [if_pos h'])
    · have h' : ¬ KBL.keepN w sh (maskOf w t3) = 0 := fun z => h (by rw [z]; rfl)
      walk_at "rd"
      refine ⟨p, C, dx, _, rfl, upd_same, T.cl, T.n_shift, putF_lt0 (by decide), ?_⟩
      walk_at "rd"
      refine ⟨p, C, dx, _, rfl, upd_same, T.cl, T.n_keep, putF_lt0 (putF_lt (by decide)), ?_⟩
      walk_at "rd"
      refine ⟨p, C, dx, _, rfl, upd_same, T.cl, T.n_flip, putF_lt0 (putF_lt (putF_lt (by decide))), ?_⟩
      exact fin sh (by unfold KBL.shiftN; rw [if_neg h'])

theorem ok_bcall {f C aW cR : Addr} {fd : FuncData} (F : Fun K "__call__" "Blend.__call__" s_Blend___call__ f fd) (T : TxtB K mg C aW) (c_need_word : KB.Callee P w K mg base (L2.CX P w) 5 "need_word" ["width", "value"] (spNeed cR)) (c_shifted : KB.Callee P w K mg base CX0 2 "shifted" ["value", "width", "shift"] spSh) : FnOk P w K mg base (L2.CX P w) 6 f fd ["self", "value"] (spBCall C cR) := by
  refine F.okX sc_Blend___call__ (fun vs H Q E h => ?_) (fun cdv A outer s H vs Q E hr h => ?_)
  · obtain ⟨p, w, s, k, f, v, t, rfl, _⟩ := h
    rfl
  · obtain ⟨p, w, s, k, f, v, t, rfl, ⟨nm, dx, h1⟩, od, q, x⟩ := h
    refine ⟨_, (pss_cons (ps_expr (pe_callC c_need_word (hr.mono (by decide)) (by rfl) (passes_call KL.def_takes fun _ _ _ _ h => h) (pa_cons (pe_fld (pv 0) rfl) (pa_cons (pv 1) pa_nil))))
 (pss_one (ps_ret (pe_op op_xor (pe_fld (pv 0) rfl) (pe_op op_and (pe_fld (pv 0) rfl) (pe_callC c_shifted (hr.mono (by decide)) (by rfl) pass0 (pa_cons (pv 1) (pa_cons (pe_fld (pv 0) rfl) (pa_cons (pe_fld (pv 0) rfl) pa_nil))))))))), at_start (σ := [some (.ref p), some v]) rfl ?_⟩
    try dsimp only [KC.cx_KX]
    have cl := T.cl; have nw := T.n_width; have ns := T.n_shift; have nk := T.n_keep; have nf := T.n_flip
    walk_at "rd"
    refine ⟨w, v, t, rfl, nm.w3, od, fun y => ?_, fun y d H' sm hd => x y d H' sm hd⟩
    obtain ⟨n, hn, rfl⟩ := isWord_of y
    obtain rfl : v = .int n := od
    walk_at "rd"
    refine ⟨w, n, s, rfl, nm.w3, hn, nm.lo, nm.hi, ?_⟩
    walk_at "rd"
    rw [KBL.bAnd, KBL.bXor]
    exact q n hn rfl

theorem ok_brepr {f C aW : Addr} {fd : FuncData} {k : Nat} (F : Fun K "__repr__" "Blend.__repr__" s_Blend___repr__ f fd) (T : TxtB K mg C aW) : FnOk P w K mg base CX0 (k + 1) f fd ["self"] (spBRepr C) := by
  refine F.ok sc_Blend___repr__ (fun vs H Q E h => ?_) (fun cdv A outer s H vs Q E hr h => ?_)
  · obtain ⟨p, w, s, k, f, rfl, _⟩ := h
    rfl
  · obtain ⟨p, w, s, k, f, rfl, ⟨nm, dx, h1⟩, q⟩ := h
    have sl : 1000 ≤ sizeLine := by decide
    have wp := nm.w3.pow
    have wl := nm.w3.le
    obtain ⟨b1, b2, b3, b4⟩ := numBits nm
    refine ⟨_, (pss_one (ps_ret (pe_joined (.cons pe_str (.cons (pe_fmt (pe_fld (pv 0) rfl)) (.cons pe_str (.cons (pe_fmt (pe_fld (pv 0) rfl)) (.cons pe_str (.cons (pe_fmt (pe_fld (pv 0) rfl)) (.cons pe_str (.cons (pe_fmt (pe_fld (pv 0) rfl)) (.cons pe_str .nil)))))))))))), at_start (σ := [some (.ref p)]) rfl ?_⟩
    dsimp only [cx_K]
    have cl := T.cl; have nw := T.n_width; have ns := T.n_shift; have nk := T.n_keep; have nf := T.n_flip
    walk_at "rd"
    have c0 : Str.empty.length = 0 := rfl
    have c1 : (Str.ofString "Blend(").length = 6 := by decide +kernel
    have c2 : (Str.ofString ", ").length = 2 := by decide +kernel
    have c3 : (Str.ofString ")").length = 1 := by decide +kernel
    have d1 := KBL.num_len b1
    have d2 := KBL.num_len b2
    have d3 := KBL.num_len b3
    have d4 := KBL.num_len b4
    have sl2 : 10000 ≤ sizeLine := by decide
    refine ⟨(by simp only [Str.length_append]; omega), ?_⟩
    walk_at "rd"
    refine Or.inr ⟨_, rfl, b1, ?_⟩
    refine ⟨_, rfl, (by simp only [Str.length_append]; omega), ?_⟩
    walk_at "rd"
    refine ⟨(by simp only [Str.length_append]; omega), ?_⟩
    walk_at "rd"
    refine Or.inr ⟨_, rfl, b2, ?_⟩
    refine ⟨_, rfl, (by simp only [Str.length_append]; omega), ?_⟩
    walk_at "rd"
    refine ⟨(by simp only [Str.length_append]; omega), ?_⟩
    walk_at "rd"
    refine Or.inr ⟨_, rfl, b3, ?_⟩
    refine ⟨_, rfl, (by simp only [Str.length_append]; omega), ?_⟩
    walk_at "rd"
    refine ⟨(by simp only [Str.length_append]; omega), ?_⟩
    walk_at "rd"
    refine Or.inr ⟨_, rfl, b4, ?_⟩
    refine ⟨_, rfl, (by simp only [Str.length_append]; omega), ?_⟩
    walk_at "rd"
    refine ⟨(by simp only [Str.length_append]; omega), ?_⟩
    walk_at "rd"
    exact q

end
end K05


namespace K05
open PySem L2 KB KO KY
/-! ### operations on blends -/
def isStep (w : Nat) : Dt → Bool
  | .sc (.int i) => decide (0 ≤ i ∧ i ≤ w)
  | _ => false
theorem isStep_of {w : Nat} {t : Dt} (h : isStep w t = true) : ∃ n : Nat, n ≤ w ∧ t = .sc (.int n) := by
  cases t with
  | sc s => cases s with
    | int i =>
      have h' : 0 ≤ i ∧ i ≤ (w : Int) := of_decide_eq_true h
      exact ⟨i.toNat, by omega, by rw [show ((i.toNat : Nat) : Int) = i by omega]⟩
    | non => cases h
    | bl => cases h
    | str => cases h
  | tup => cases h
  | lst => cases h
  | dct => cases h
theorem noInt_noStep {t : Dt} (h : isIntD t = false) (w : Nat) : isStep w t = false := by
  cases t with
  | sc s => cases s with
    | int i => cases h
    | non => rfl
    | bl => rfl
    | str => rfl
  | tup => rfl
  | lst => rfl
  | dct => rfl
theorem isStep_nat {w n : Nat} (h : n ≤ w) : isStep w (.sc (.int n)) = true := decide_eq_true ⟨by omega, by omega⟩
def spStepN (cS : Addr) : Sp := fun vs H Q E => ∃ (w : Nat) (v : V) (t : Dt), vs = [.int w, v] ∧ OdAt H v t ∧ (isStep w t = true → Q .non H) ∧ (isStep w t = false → ∀ d H', Same H H' → H' d = some (.xd [("value", v)]) → E (.ref cS) (some d) H')
/-- the shift behind a move -/
def movS (w : Nat) (s s' : Int) (k : Nat) : Int := if KBL.shN w k s' = 0 then 0 else s + s'
/-- the move is within the width -/
def MovOk (w : Nat) (s s' : Int) (k : Nat) : Prop := 0 - (w : Int) ≤ s' ∧ s' ≤ w ∧ (KBL.shN w k s' ≠ 0 → 0 - (w : Int) ≤ s + s' ∧ s + s' ≤ w)
def MadeAt (C : Addr) (H : Hp) (p : Addr) (w : Nat) (s : Int) (m f : Nat) : Prop := BlendAt C H p w (KBL.shiftN w s m) (KBL.keepN w s m) f
def spMoved (C : Addr) : Sp := fun vs H Q _ => ∃ (p : Addr) (w : Nat) (s s' : Int) (k f : Nat), vs = [.ref p, .int s'] ∧ BlendAt C H p w s k f ∧ MovOk w s s' k ∧ ∀ H' x, MadeAt C H' x w (movS w s s' k) (KBL.shN w k s') (KBL.shN w f s') → Same H H' → Q (.ref x) H'
def spShl (C cS : Addr) : Sp := fun vs H Q E => ∃ (p : Addr) (w : Nat) (s : Int) (k f : Nat) (v : V) (t : Dt), vs = [.ref p, v] ∧ BlendAt C H p w s k f ∧ OdAt H v t ∧
  (∀ n : Nat, n ≤ w → t = .sc (.int n) → MovOk w s n k ∧ ∀ H' x, MadeAt C H' x w (movS w s n k) (KBL.shN w k n) (KBL.shN w f n) → Same H H' → Q (.ref x) H') ∧ (isStep w t = false → ∀ d H', Same H H' → H' d = some (.xd [("value", v)]) → E (.ref cS) (some d) H')
def spShr (C cS : Addr) : Sp := fun vs H Q E => ∃ (p : Addr) (w : Nat) (s : Int) (k f : Nat) (v : V) (t : Dt), vs = [.ref p, v] ∧ BlendAt C H p w s k f ∧ OdAt H v t ∧
  (∀ n : Nat, n ≤ w → t = .sc (.int n) → MovOk w s (0 - n) k ∧ ∀ H' x, MadeAt C H' x w (movS w s (0 - n) k) (KBL.shN w k (0 - n)) (KBL.shN w f (0 - n)) → Same H H' → Q (.ref x) H') ∧ (isStep w t = false → ∀ d H', Same H H' → H' d = some (.xd [("value", v)]) → E (.ref cS) (some d) H')
def spAndB (C cR : Addr) : Sp := fun vs H Q E => ∃ (p : Addr) (w : Nat) (s : Int) (k f : Nat) (v : V) (t : Dt), vs = [.ref p, v] ∧ BlendAt C H p w s k f ∧ OdAt H v t ∧
  (∀ n : Nat, n < 2 ^ w → t = .sc (.int n) → ∀ H' x, MadeAt C H' x w s (k &&& n) (f &&& n) → Same H H' → Q (.ref x) H') ∧ (isWord w t = false → ∀ d H', Same H H' → H' d = some (.xd [("value", v)]) → E (.ref cR) (some d) H')
theorem make_b {C cW cS cR : Addr} {H : Hp} {w : Nat} {s : Int} {m f : Nat} {Q : Hp → Prop} {E : XK} {x dx : Addr} (nx : H x = none) (ndx : H dx = none) (nm : Nm w s m f) (q : ∀ H', BlendAt C H' x w (KBL.shiftN w s m) (KBL.keepN w s m) f → Same H H' → Q H') :
    spBlend C cW cS cR [.ref x, .int w, .int s, .int m, .int f] (upd (upd H dx (.own x)) x (.ins C dx [])) (fun v H3 => v = .non ∧ Q H3) E := by
  have sh : isShift w (.sc (.int s)) = true := decide_eq_true ⟨nm.lo, nm.hi⟩
  refine ⟨x, dx, _, _, _, _, .sc (.int w), .sc (.int s), .sc (.int m), .sc (.int f), rfl, upd_same, rfl, rfl, rfl, rfl, fun z => ?_, fun w' e w3 z => ?_, fun w' e w3 _ _ z => ?_, fun w' e w3 _ _ z => ?_, fun w' s' f' e1 e2 e4 _ nm' H' B kp => ⟨rfl, ?_⟩⟩
  · rw [isW_nat nm.w3] at z; cases z
  · cases e; rw [sh] at z; cases z
  · obtain rfl : w = w' := by cases e; rfl
    rw [isWord_nat nm.kl] at z; cases z
  · obtain rfl : w = w' := by cases e; rfl
    rw [isWord_nat nm.fl] at z; cases z
  · obtain rfl : w = w' := by cases e1; rfl
    obtain rfl : s = s' := by cases e2; rfl
    obtain rfl : f = f' := by cases e4; rfl
    exact q H' B fun b o e => kp b o (by rw [upd_ne (ne_of_none e nx), upd_ne (ne_of_none e ndx)]; exact e) (ne_of_none e nx)
theorem make_d {C cW cS cR : Addr} {H : Hp} {w : Nat} {Q : Hp → Prop} {E : XK} {x dx : Addr} (nx : H x = none) (ndx : H dx = none) (w3 : W3 w) (q : ∀ H', BlendAt C H' x w (KBL.shiftN w 0 (KBL.onesN w)) (KBL.keepN w 0 (KBL.onesN w)) 0 → Same H H' → Q H') :
    spBlend C cW cS cR [.ref x, .int w, .int 0, .non, .int 0] (upd (upd H dx (.own x)) x (.ins C dx [])) (fun v H3 => v = .non ∧ Q H3) E := by
  have wl := w3.le
  have sh : isShift w (.sc (.int 0)) = true := decide_eq_true ⟨by omega, by omega⟩
  refine ⟨x, dx, _, _, _, _, .sc (.int w), .sc (.int 0), .sc .non, .sc (.int 0), rfl, upd_same, rfl, rfl, rfl, rfl, fun z => ?_, fun w' e w3 z => ?_, fun w' e w3 _ z => ?_, fun w' e w3 _ _ z => ?_, fun w' s' f' e1 e2 e4 _ nm' H' B kp => ⟨rfl, ?_⟩⟩
  · rw [isW_nat w3] at z; cases z
  · cases e; rw [sh] at z; cases z
  · cases z
  · rw [show (Dt.sc (.int 0)) = .sc (.int ((0 : Nat) : Int)) from rfl, isWord_nat (Nat.two_pow_pos w')] at z; cases z
  · obtain rfl : w = w' := by cases e1; rfl
    obtain rfl : s' = 0 := by cases e2; rfl
    obtain rfl : f' = 0 := by cases e4; rfl
    exact q H' B fun b o e => kp b o (by rw [upd_ne (ne_of_none e nx), upd_ne (ne_of_none e ndx)]; exact e) (ne_of_none e nx)


section
variable {P : Program} {w : World} {K : PySem.W.Frag} {mg : Str → Option Value} {base : Heap}
theorem ok_step {f cS : Addr} {fd : FuncData} (F : Fun K "need_step" "need_step" s_need_step f fd) (e_InvalidShift : KX.ErrMk P w K mg base cS "InvalidShift" "value") (c_is_integer : KB.Callee P w K mg base CX0 1 "is_integer" ["value"] spInt) : FnOk P w K mg base (L2.CX P w) 3 f fd ["width", "step"] (spStepN cS) := by
  refine F.okX sc_need_step (fun vs H Q E h => ?_) (fun cdv A outer s H vs Q E hr h => ?_)
  · obtain ⟨w, v, t, rfl, _⟩ := h
    rfl
  · obtain ⟨w, v, t, rfl, od, q, x⟩ := h
    refine ⟨_, (pss_one (ps_if (PW.pt (pw_or (pt_not (pt_val (pe_callC c_is_integer (hr.mono (by decide)) (by rfl) pass0 (pa_cons (pv 1) pa_nil)))) (pw_or1 (pt_not (pt_chain op_le op_le pe_int (pv 1) (pv 0)))))) (pss_one (ps_raise rfl KL.def_takes (KX.pmkC e_InvalidShift (hr.mono (by decide)) (by rfl) (pa_cons (pv 1) pa_nil))))
 pss_nil)), at_start (σ := [some (.int w), some v]) rfl ?_⟩
    try dsimp only [KC.cx_KX]
    walk_at "rd"
    refine ⟨v, t, rfl, od, ?_⟩
    walk_at "rd"
    refine r_iteBN (fun z => ?_) (fun z => ?_)
    · walk_at "rd"
      refine KX.r_raiseO ?_ KX.mono_var
      walk_at "rd"
      exact fun d H' sm hd => x (noInt_noStep z w) d H' sm hd
    obtain ⟨i, rfl⟩ := isIntD_of z
    obtain rfl : v = .int i := od
    have bad : ¬ (0 ≤ i ∧ i ≤ (w : Int)) → ∀ (d : Addr) (H' : Hp), Same H H' → H' d = some (.xd [("value", .int i)]) → E (.ref cS) (some d) H' := fun y => x (decide_eq_false y)
    walk_at "rd"
    refine KC.r_chain ?_
    walk_at "rd"
    refine r_ite2 (fun lo => ?_) (fun lo => ?_)
    rotate_left
    · walk_at "rd"
      refine KX.r_raiseO ?_ KX.mono_var
      walk_at "rd"
      exact bad fun y => lo y.1
    walk_at "rd"
    refine r_iteN2 (fun hi => ?_) (fun hi => ?_)
    · walk_at "rd"
      refine KX.r_raiseO ?_ KX.mono_var
      walk_at "rd"
      exact bad fun y => hi y.2
    walk_at "rd"
    exact q (decide_eq_true ⟨lo, hi⟩)
theorem ok_moved {f C aW cW cS cR : Addr} {fd : FuncData} (F : Fun K "moved" "moved" s_moved f fd) (T : TxtB K mg C aW) (c_shifted : KB.Callee P w K mg base CX0 2 "shifted" ["value", "width", "shift"] spSh) (c_Blend___init__ : CalleeI P w K mg base (L2.CX P w) 6 C "Blend" ["self", "width", "shift", "keep", "flip"] (spBlend C cW cS cR)) : FnOk P w K mg base CX0 8 f fd ["blend", "step"] (spMoved C) := by
  refine F.ok sc_moved (fun vs H Q E h => ?_) (fun cdv A outer s H vs Q E hr h => ?_)
  · obtain ⟨p, w, s, s', k, f, rfl, _⟩ := h
    rfl
  · obtain ⟨p, w, s, s', k, f, rfl, ⟨nm, dx, h1⟩, ⟨m1, m2, m3⟩, q⟩ := h
    refine ⟨_, (pss_cons (ps_set (i := 2) sc_moved.nd rfl (by first | exact Or.inl rfl | exact Or.inr rfl) (pe_callC c_shifted (hr.mono (by decide)) (by rfl) pass0 (pa_cons (pe_fld (pv 0) rfl) (pa_cons (pe_fld (pv 0) rfl) (pa_cons (pv 1) pa_nil)))))
 (pss_cons (ps_set (i := 3) sc_moved.nd rfl (by first | exact Or.inl rfl | exact Or.inr rfl) (pe_callC c_shifted (hr.mono (by decide)) (by rfl) pass0 (pa_cons (pe_fld (pv 0) rfl) (pa_cons (pe_fld (pv 0) rfl) (pa_cons (pv 1) pa_nil)))))
 (pss_one (ps_ret (pe_makeC c_Blend___init__ (hr.mono (by decide)) (by rfl) passL (pa_cons (pe_fld (pv 0) rfl) (pa_cons (pe_ifExp (pt_cmpR op_ne (pv 2) pe_int (nomark _)) (pe_op op_add (pe_fld (pv 0) rfl) (pv 1)) pe_int) (pa_cons (pv 2) (pa_cons (pv 3) pa_nil))))))))), at_start (σ := [some (.ref p), some (.int s'), none, none]) rfl ?_⟩
    try dsimp only [cx_K]
    have cl := T.cl; have nw := T.n_width; have ns := T.n_shift; have nk := T.n_keep; have nf := T.n_flip
    have k1 := KBL.sh_lt (s := s') nm.kl
    have f1 := KBL.sh_lt (s := s') nm.fl
    walk_at "rd"
    refine ⟨w, k, s', rfl, nm.w3, nm.kl, m1, m2, ?_⟩
    walk_at "rd"
    refine ⟨w, f, s', rfl, nm.w3, nm.fl, m1, m2, ?_⟩
    walk_at "rd"
    unfold movS at q
    refine r_iteN2 (fun h => ?_) (fun h => ?_)
    · have h' : ¬ KBL.shN w k s' = 0 := fun z => h (by rw [z]; rfl)
      rw [if_neg h'] at q
      walk_at "rd"
      refine fun x dx nx ndx nxd => make_b nx ndx ⟨nm.w3, (m3 h').1, (m3 h').2, k1, f1⟩ fun H' B sm => ?_
      exact q H' x B sm
    · have h' : KBL.shN w k s' = 0 := by have := V.int.inj h; omega
      rw [if_pos h'] at q
      walk_at "rd"
      refine fun x dx nx ndx nxd => make_b nx ndx ⟨nm.w3, by omega, by omega, k1, f1⟩ fun H' B sm => ?_
      exact q H' x B sm
theorem ok_shl {f C aW cS : Addr} {fd : FuncData} (F : Fun K "__lshift__" "Blend.__lshift__" s_Blend___lshift__ f fd) (T : TxtB K mg C aW) (c_need_step : KB.Callee P w K mg base (L2.CX P w) 3 "need_step" ["width", "step"] (spStepN cS)) (c_moved : KB.Callee P w K mg base CX0 8 "moved" ["blend", "step"] (spMoved C)) : FnOk P w K mg base (L2.CX P w) 9 f fd ["self", "other"] (spShl C cS) := by
  refine F.okX sc_Blend___lshift__ (fun vs H Q E h => ?_) (fun cdv A outer s H vs Q E hr h => ?_)
  · obtain ⟨p, w, s, k, f, v, t, rfl, _⟩ := h
    rfl
  · obtain ⟨p, w, s, k, f, v, t, rfl, B, od, q, x⟩ := h
    obtain ⟨nm, dx, h1⟩ := id B
    refine ⟨_, (pss_cons (ps_expr (pe_callC c_need_step (hr.mono (by decide)) (by rfl) (passes_call KL.def_takes fun _ _ _ _ h => h) (pa_cons (pe_fld (pv 0) rfl) (pa_cons (pv 1) pa_nil))))
 (pss_one (ps_ret (pe_callC c_moved (hr.mono (by decide)) (by rfl) pass0 (pa_cons (pv 0) (pa_cons (pv 1) pa_nil)))))), at_start (σ := [some (.ref p), some v]) rfl ?_⟩
    try dsimp only [KC.cx_KX]
    have cl := T.cl; have nw := T.n_width
    walk_at "rd"
    refine ⟨w, v, t, rfl, od, fun y => ?_, fun y d H' sm hd => x y d H' sm hd⟩
    obtain ⟨n, hn, rfl⟩ := isStep_of y
    obtain rfl : v = .int n := od
    obtain ⟨q1, q2⟩ := q n hn rfl
    walk_at "rd"
    exact ⟨p, w, s, n, k, f, rfl, B, q1, q2⟩
theorem ok_shr {f C aW cS : Addr} {fd : FuncData} (F : Fun K "__rshift__" "Blend.__rshift__" s_Blend___rshift__ f fd) (T : TxtB K mg C aW) (c_need_step : KB.Callee P w K mg base (L2.CX P w) 3 "need_step" ["width", "step"] (spStepN cS)) (c_moved : KB.Callee P w K mg base CX0 8 "moved" ["blend", "step"] (spMoved C)) : FnOk P w K mg base (L2.CX P w) 9 f fd ["self", "other"] (spShr C cS) := by
  refine F.okX sc_Blend___rshift__ (fun vs H Q E h => ?_) (fun cdv A outer s H vs Q E hr h => ?_)
  · obtain ⟨p, w, s, k, f, v, t, rfl, _⟩ := h
    rfl
  · obtain ⟨p, w, s, k, f, v, t, rfl, B, od, q, x⟩ := h
    obtain ⟨nm, dx, h1⟩ := id B
    refine ⟨_, (pss_cons (ps_expr (pe_callC c_need_step (hr.mono (by decide)) (by rfl) (passes_call KL.def_takes fun _ _ _ _ h => h) (pa_cons (pe_fld (pv 0) rfl) (pa_cons (pv 1) pa_nil))))
 (pss_one (ps_ret (pe_callC c_moved (hr.mono (by decide)) (by rfl) pass0 (pa_cons (pv 0) (pa_cons (pe_op op_sub pe_int (pv 1)) pa_nil)))))), at_start (σ := [some (.ref p), some v]) rfl ?_⟩
    try dsimp only [KC.cx_KX]
    have cl := T.cl; have nw := T.n_width
    walk_at "rd"
    refine ⟨w, v, t, rfl, od, fun y => ?_, fun y d H' sm hd => x y d H' sm hd⟩
    obtain ⟨n, hn, rfl⟩ := isStep_of y
    obtain rfl : v = .int n := od
    obtain ⟨q1, q2⟩ := q n hn rfl
    walk_at "rd"
    exact ⟨p, w, s, 0 - (n : Int), k, f, rfl, B, q1, q2⟩
theorem ok_andB {f C aW cW cS cR : Addr} {fd : FuncData} (F : Fun K "__and__" "Blend.__and__" s_Blend___and__ f fd) (T : TxtB K mg C aW) (c_need_word : KB.Callee P w K mg base (L2.CX P w) 5 "need_word" ["width", "value"] (spNeed cR)) (c_Blend___init__ : CalleeI P w K mg base (L2.CX P w) 6 C "Blend" ["self", "width", "shift", "keep", "flip"] (spBlend C cW cS cR)) : FnOk P w K mg base (L2.CX P w) 8 f fd ["self", "other"] (spAndB C cR) := by
  refine F.okX sc_Blend___and__ (fun vs H Q E h => ?_) (fun cdv A outer s H vs Q E hr h => ?_)
  · obtain ⟨p, w, s, k, f, v, t, rfl, _⟩ := h
    rfl
  · obtain ⟨p, w, s, k, f, v, t, rfl, B, od, q, x⟩ := h
    obtain ⟨nm, dx, h1⟩ := id B
    refine ⟨_, (pss_cons (ps_expr (pe_callC c_need_word (hr.mono (by decide)) (by rfl) (passes_call KL.def_takes fun _ _ _ _ h => h) (pa_cons (pe_fld (pv 0) rfl) (pa_cons (pv 1) pa_nil))))
 (pss_one (ps_ret (pe_makeC c_Blend___init__ (hr.mono (by decide)) (by rfl) (passes_call KL.def_takes fun _ _ _ _ h => h) (pa_cons (pe_fld (pv 0) rfl) (pa_cons (pe_fld (pv 0) rfl) (pa_cons (pe_op op_and (pe_fld (pv 0) rfl) (pv 1)) (pa_cons (pe_op op_and (pe_fld (pv 0) rfl) (pv 1)) pa_nil)))))))), at_start (σ := [some (.ref p), some v]) rfl ?_⟩
    try dsimp only [KC.cx_KX]
    have cl := T.cl; have nw := T.n_width; have ns := T.n_shift; have nk := T.n_keep; have nf := T.n_flip
    walk_at "rd"
    refine ⟨w, v, t, rfl, nm.w3, od, fun y => ?_, fun y d H' sm hd => x y d H' sm hd⟩
    obtain ⟨n, hn, rfl⟩ := isWord_of y
    obtain rfl : v = .int n := od
    walk_at "rd"
    rw [KBL.bAnd, KBL.bAnd]
    refine fun x dx nx ndx nxd => make_b nx ndx ⟨nm.w3, nm.lo, nm.hi, Nat.and_lt_two_pow _ hn, Nat.and_lt_two_pow _ hn⟩ fun H' B' sm => ?_
    exact q n hn rfl H' x B' sm

end
end K05


namespace K05
open PySem L2 KB KO KY
/-! ### &, |, ^ on either side; a constant blend -/
def kAnd (_ k n : Nat) : Nat := k &&& n
def fAnd (_ f n : Nat) : Nat := f &&& n
def kOr (w k n : Nat) : Nat := k &&& (KBL.onesN w ^^^ n)
def fOr (_ f n : Nat) : Nat := f ||| n
def kXor (_ k _ : Nat) : Nat := k
def fXor (_ f n : Nat) : Nat := f ^^^ n
def spBin (C cR : Addr) (gk gf : Nat → Nat → Nat → Nat) : Sp := fun vs H Q E => ∃ (p : Addr) (w : Nat) (s : Int) (k f : Nat) (v : V) (t : Dt), vs = [.ref p, v] ∧ BlendAt C H p w s k f ∧ OdAt H v t ∧
  (∀ n : Nat, n < 2 ^ w → t = .sc (.int n) → ∀ H' x, MadeAt C H' x w s (gk w k n) (gf w f n) → Same H H' → Q (.ref x) H') ∧ (isWord w t = false → ∀ d H', Same H H' → H' d = some (.xd [("value", v)]) → E (.ref cR) (some d) H')
def spConst (C cW cR : Addr) : Sp := fun vs H Q E => ∃ (v1 v2 : V) (t1 t2 : Dt), vs = [.ref C, v1, v2] ∧ OdAt H v1 t1 ∧ OdAt H v2 t2 ∧ (isW t1 = false → ∀ d H', Same H H' → H' d = some (.xd [("value", v1)]) → E (.ref cW) (some d) H') ∧
  (∀ w : Nat, t1 = .sc (.int w) → W3 w → isWord w t2 = false → ∀ d H', Same H H' → H' d = some (.xd [("value", v2)]) → E (.ref cR) (some d) H') ∧
  (∀ w n : Nat, t1 = .sc (.int w) → t2 = .sc (.int n) → W3 w → n < 2 ^ w → ∀ H' x, MadeAt C H' x w 0 0 n → Same H H' → Q (.ref x) H')
theorem or_and_add (a : Nat) : ∀ b : Nat, (a ||| b) + (a &&& b) = a + b := by
  induction a using Nat.strongRecOn with
  | _ a ih =>
    intro b
    by_cases h : a = 0
    · subst h; simp
    · have e := ih (a / 2) (by omega) (b / 2)
      have x1 := Nat.or_mod_two_pow (a := a) (b := b) (n := 1)
      have x2 := Nat.and_mod_two_pow (a := a) (b := b) (n := 1)
      have x3 := Nat.or_div_two_pow (a := a) (b := b) (n := 1)
      have x4 := Nat.and_div_two_pow (a := a) (b := b) (n := 1)
      simp only [Nat.pow_one] at x1 x2 x3 x4
      have da := Nat.div_add_mod a 2
      have db := Nat.div_add_mod b 2
      have dx := Nat.div_add_mod (a ||| b) 2
      have dy := Nat.div_add_mod (a &&& b) 2
      rw [x1, x3] at dx
      rw [x2, x4] at dy
      rcases Nat.mod_two_eq_zero_or_one a with ha | ha <;> rcases Nat.mod_two_eq_zero_or_one b with hb | hb <;> rw [ha, hb] at dx dy <;> rw [ha] at da <;> rw [hb] at db <;> simp at dx dy <;> omega
theorem bOrN (a b : Nat) : Builtin.bitOr (a : Int) (b : Int) = ((a ||| b : Nat) : Int) := by
  rw [PyProof.Rows.bitOr_and, KBL.bAnd]
  have := or_and_add a b
  omega


section
variable {P : Program} {w : World} {K : PySem.W.Frag} {mg : Str → Option Value} {base : Heap}
theorem ok_or {f C aW cW cS cR : Addr} {fd : FuncData} (F : Fun K "__or__" "Blend.__or__" s_Blend___or__ f fd) (T : TxtB K mg C aW) (c_need_word : KB.Callee P w K mg base (L2.CX P w) 5 "need_word" ["width", "value"] (spNeed cR)) (c_ones : KB.Callee P w K mg base CX0 1 "ones" ["width"] spOnes) (c_Blend___init__ : CalleeI P w K mg base (L2.CX P w) 6 C "Blend" ["self", "width", "shift", "keep", "flip"] (spBlend C cW cS cR)) : FnOk P w K mg base (L2.CX P w) 8 f fd ["self", "other"] (spBin C cR kOr fOr) := by
  refine F.okX sc_Blend___or__ (fun vs H Q E h => ?_) (fun cdv A outer s H vs Q E hr h => ?_)
  · obtain ⟨p, w, s, k, f, v, t, rfl, _⟩ := h
    rfl
  · obtain ⟨p, w, s, k, f, v, t, rfl, B, od, q, x⟩ := h
    obtain ⟨nm, dx, h1⟩ := id B
    refine ⟨_, (pss_cons (ps_expr (pe_callC c_need_word (hr.mono (by decide)) (by rfl) (passes_call KL.def_takes fun _ _ _ _ h => h) (pa_cons (pe_fld (pv 0) rfl) (pa_cons (pv 1) pa_nil))))
 (pss_one (ps_ret (pe_makeC c_Blend___init__ (hr.mono (by decide)) (by rfl) (passes_call KL.def_takes fun _ _ _ _ h => h) (pa_cons (pe_fld (pv 0) rfl) (pa_cons (pe_fld (pv 0) rfl) (pa_cons (pe_op op_and (pe_fld (pv 0) rfl) (pe_op op_xor (pe_callC c_ones (hr.mono (by decide)) (by rfl) pass0 (pa_cons (pe_fld (pv 0) rfl) pa_nil)) (pv 1))) (pa_cons (pe_op op_or (pe_fld (pv 0) rfl) (pv 1)) pa_nil)))))))), at_start (σ := [some (.ref p), some v]) rfl ?_⟩
    try dsimp only [KC.cx_KX]
    have cl := T.cl; have nw := T.n_width; have ns := T.n_shift; have nk := T.n_keep; have nf := T.n_flip
    have wl := nm.w3.le
    walk_at "rd"
    refine ⟨w, v, t, rfl, nm.w3, od, fun y => ?_, fun y d H' sm hd => x y d H' sm hd⟩
    obtain ⟨n, hn, rfl⟩ := isWord_of y
    obtain rfl : v = .int n := od
    walk_at "rd"
    refine ⟨w, rfl, wl.2, ?_⟩
    walk_at "rd"
    rw [KBL.bXor, KBL.bAnd, bOrN]
    refine fun x dx nx ndx nxd => make_b nx ndx ⟨nm.w3, nm.lo, nm.hi, Nat.and_lt_two_pow _ (Nat.xor_lt_two_pow (KBL.ones_lt w) hn), Nat.or_lt_two_pow nm.fl hn⟩ fun H' B' sm => ?_
    exact q n hn rfl H' x B' sm
theorem ok_xor {f C aW cW cS cR : Addr} {fd : FuncData} (F : Fun K "__xor__" "Blend.__xor__" s_Blend___xor__ f fd) (T : TxtB K mg C aW) (c_need_word : KB.Callee P w K mg base (L2.CX P w) 5 "need_word" ["width", "value"] (spNeed cR)) (c_Blend___init__ : CalleeI P w K mg base (L2.CX P w) 6 C "Blend" ["self", "width", "shift", "keep", "flip"] (spBlend C cW cS cR)) : FnOk P w K mg base (L2.CX P w) 8 f fd ["self", "other"] (spBin C cR kXor fXor) := by
  refine F.okX sc_Blend___xor__ (fun vs H Q E h => ?_) (fun cdv A outer s H vs Q E hr h => ?_)
  · obtain ⟨p, w, s, k, f, v, t, rfl, _⟩ := h
    rfl
  · obtain ⟨p, w, s, k, f, v, t, rfl, B, od, q, x⟩ := h
    obtain ⟨nm, dx, h1⟩ := id B
    refine ⟨_, (pss_cons (ps_expr (pe_callC c_need_word (hr.mono (by decide)) (by rfl) (passes_call KL.def_takes fun _ _ _ _ h => h) (pa_cons (pe_fld (pv 0) rfl) (pa_cons (pv 1) pa_nil))))
 (pss_one (ps_ret (pe_makeC c_Blend___init__ (hr.mono (by decide)) (by rfl) (passes_call KL.def_takes fun _ _ _ _ h => h) (pa_cons (pe_fld (pv 0) rfl) (pa_cons (pe_fld (pv 0) rfl) (pa_cons (pe_fld (pv 0) rfl) (pa_cons (pe_op op_xor (pe_fld (pv 0) rfl) (pv 1)) pa_nil)))))))), at_start (σ := [some (.ref p), some v]) rfl ?_⟩
    try dsimp only [KC.cx_KX]
    have cl := T.cl; have nw := T.n_width; have ns := T.n_shift; have nk := T.n_keep; have nf := T.n_flip
    have wl := nm.w3.le
    walk_at "rd"
    refine ⟨w, v, t, rfl, nm.w3, od, fun y => ?_, fun y d H' sm hd => x y d H' sm hd⟩
    obtain ⟨n, hn, rfl⟩ := isWord_of y
    obtain rfl : v = .int n := od
    walk_at "rd"
    rw [KBL.bXor]
    refine fun x dx nx ndx nxd => make_b nx ndx ⟨nm.w3, nm.lo, nm.hi, nm.kl, Nat.xor_lt_two_pow nm.fl hn⟩ fun H' B' sm => ?_
    exact q n hn rfl H' x B' sm
theorem ok_rand {f C aW cW cS cR : Addr} {fd : FuncData} (F : Fun K "__rand__" "Blend.__rand__" s_Blend___rand__ f fd) (T : TxtB K mg C aW) (c_need_word : KB.Callee P w K mg base (L2.CX P w) 5 "need_word" ["width", "value"] (spNeed cR)) (c_Blend___init__ : CalleeI P w K mg base (L2.CX P w) 6 C "Blend" ["self", "width", "shift", "keep", "flip"] (spBlend C cW cS cR)) : FnOk P w K mg base (L2.CX P w) 8 f fd ["self", "other"] (spBin C cR kAnd fAnd) := by
  refine F.okX sc_Blend___rand__ (fun vs H Q E h => ?_) (fun cdv A outer s H vs Q E hr h => ?_)
  · obtain ⟨p, w, s, k, f, v, t, rfl, _⟩ := h
    rfl
  · obtain ⟨p, w, s, k, f, v, t, rfl, B, od, q, x⟩ := h
    obtain ⟨nm, dx, h1⟩ := id B
    refine ⟨_, (pss_cons (ps_expr (pe_callC c_need_word (hr.mono (by decide)) (by rfl) (passes_call KL.def_takes fun _ _ _ _ h => h) (pa_cons (pe_fld (pv 0) rfl) (pa_cons (pv 1) pa_nil))))
 (pss_one (ps_ret (pe_makeC c_Blend___init__ (hr.mono (by decide)) (by rfl) (passes_call KL.def_takes fun _ _ _ _ h => h) (pa_cons (pe_fld (pv 0) rfl) (pa_cons (pe_fld (pv 0) rfl) (pa_cons (pe_op op_and (pe_fld (pv 0) rfl) (pv 1)) (pa_cons (pe_op op_and (pe_fld (pv 0) rfl) (pv 1)) pa_nil)))))))), at_start (σ := [some (.ref p), some v]) rfl ?_⟩
    try dsimp only [KC.cx_KX]
    have cl := T.cl; have nw := T.n_width; have ns := T.n_shift; have nk := T.n_keep; have nf := T.n_flip
    have wl := nm.w3.le
    walk_at "rd"
    refine ⟨w, v, t, rfl, nm.w3, od, fun y => ?_, fun y d H' sm hd => x y d H' sm hd⟩
    obtain ⟨n, hn, rfl⟩ := isWord_of y
    obtain rfl : v = .int n := od
    walk_at "rd"
    rw [KBL.bAnd, KBL.bAnd]
    refine fun x dx nx ndx nxd => make_b nx ndx ⟨nm.w3, nm.lo, nm.hi, Nat.and_lt_two_pow _ hn, Nat.and_lt_two_pow _ hn⟩ fun H' B' sm => ?_
    exact q n hn rfl H' x B' sm
theorem ok_ror {f C aW cW cS cR : Addr} {fd : FuncData} (F : Fun K "__ror__" "Blend.__ror__" s_Blend___ror__ f fd) (T : TxtB K mg C aW) (c_need_word : KB.Callee P w K mg base (L2.CX P w) 5 "need_word" ["width", "value"] (spNeed cR)) (c_ones : KB.Callee P w K mg base CX0 1 "ones" ["width"] spOnes) (c_Blend___init__ : CalleeI P w K mg base (L2.CX P w) 6 C "Blend" ["self", "width", "shift", "keep", "flip"] (spBlend C cW cS cR)) : FnOk P w K mg base (L2.CX P w) 8 f fd ["self", "other"] (spBin C cR kOr fOr) := by
  refine F.okX sc_Blend___ror__ (fun vs H Q E h => ?_) (fun cdv A outer s H vs Q E hr h => ?_)
  · obtain ⟨p, w, s, k, f, v, t, rfl, _⟩ := h
    rfl
  · obtain ⟨p, w, s, k, f, v, t, rfl, B, od, q, x⟩ := h
    obtain ⟨nm, dx, h1⟩ := id B
    refine ⟨_, (pss_cons (ps_expr (pe_callC c_need_word (hr.mono (by decide)) (by rfl) (passes_call KL.def_takes fun _ _ _ _ h => h) (pa_cons (pe_fld (pv 0) rfl) (pa_cons (pv 1) pa_nil))))
 (pss_one (ps_ret (pe_makeC c_Blend___init__ (hr.mono (by decide)) (by rfl) (passes_call KL.def_takes fun _ _ _ _ h => h) (pa_cons (pe_fld (pv 0) rfl) (pa_cons (pe_fld (pv 0) rfl) (pa_cons (pe_op op_and (pe_fld (pv 0) rfl) (pe_op op_xor (pe_callC c_ones (hr.mono (by decide)) (by rfl) pass0 (pa_cons (pe_fld (pv 0) rfl) pa_nil)) (pv 1))) (pa_cons (pe_op op_or (pe_fld (pv 0) rfl) (pv 1)) pa_nil)))))))), at_start (σ := [some (.ref p), some v]) rfl ?_⟩
    try dsimp only [KC.cx_KX]
    have cl := T.cl; have nw := T.n_width; have ns := T.n_shift; have nk := T.n_keep; have nf := T.n_flip
    have wl := nm.w3.le
    walk_at "rd"
    refine ⟨w, v, t, rfl, nm.w3, od, fun y => ?_, fun y d H' sm hd => x y d H' sm hd⟩
    obtain ⟨n, hn, rfl⟩ := isWord_of y
    obtain rfl : v = .int n := od
    walk_at "rd"
    refine ⟨w, rfl, wl.2, ?_⟩
    walk_at "rd"
    rw [KBL.bXor, KBL.bAnd, bOrN]
    refine fun x dx nx ndx nxd => make_b nx ndx ⟨nm.w3, nm.lo, nm.hi, Nat.and_lt_two_pow _ (Nat.xor_lt_two_pow (KBL.ones_lt w) hn), Nat.or_lt_two_pow nm.fl hn⟩ fun H' B' sm => ?_
    exact q n hn rfl H' x B' sm
theorem ok_rxor {f C aW cW cS cR : Addr} {fd : FuncData} (F : Fun K "__rxor__" "Blend.__rxor__" s_Blend___rxor__ f fd) (T : TxtB K mg C aW) (c_need_word : KB.Callee P w K mg base (L2.CX P w) 5 "need_word" ["width", "value"] (spNeed cR)) (c_Blend___init__ : CalleeI P w K mg base (L2.CX P w) 6 C "Blend" ["self", "width", "shift", "keep", "flip"] (spBlend C cW cS cR)) : FnOk P w K mg base (L2.CX P w) 8 f fd ["self", "other"] (spBin C cR kXor fXor) := by
  refine F.okX sc_Blend___rxor__ (fun vs H Q E h => ?_) (fun cdv A outer s H vs Q E hr h => ?_)
  · obtain ⟨p, w, s, k, f, v, t, rfl, _⟩ := h
    rfl
  · obtain ⟨p, w, s, k, f, v, t, rfl, B, od, q, x⟩ := h
    obtain ⟨nm, dx, h1⟩ := id B
    refine ⟨_, (pss_cons (ps_expr (pe_callC c_need_word (hr.mono (by decide)) (by rfl) (passes_call KL.def_takes fun _ _ _ _ h => h) (pa_cons (pe_fld (pv 0) rfl) (pa_cons (pv 1) pa_nil))))
 (pss_one (ps_ret (pe_makeC c_Blend___init__ (hr.mono (by decide)) (by rfl) (passes_call KL.def_takes fun _ _ _ _ h => h) (pa_cons (pe_fld (pv 0) rfl) (pa_cons (pe_fld (pv 0) rfl) (pa_cons (pe_fld (pv 0) rfl) (pa_cons (pe_op op_xor (pe_fld (pv 0) rfl) (pv 1)) pa_nil)))))))), at_start (σ := [some (.ref p), some v]) rfl ?_⟩
    try dsimp only [KC.cx_KX]
    have cl := T.cl; have nw := T.n_width; have ns := T.n_shift; have nk := T.n_keep; have nf := T.n_flip
    have wl := nm.w3.le
    walk_at "rd"
    refine ⟨w, v, t, rfl, nm.w3, od, fun y => ?_, fun y d H' sm hd => x y d H' sm hd⟩
    obtain ⟨n, hn, rfl⟩ := isWord_of y
    obtain rfl : v = .int n := od
    walk_at "rd"
    rw [KBL.bXor]
    refine fun x dx nx ndx nxd => make_b nx ndx ⟨nm.w3, nm.lo, nm.hi, nm.kl, Nat.xor_lt_two_pow nm.fl hn⟩ fun H' B' sm => ?_
    exact q n hn rfl H' x B' sm
theorem ok_const {f C aW cW cS cR : Addr} {fd : FuncData} (F : Fun K "constant" "Blend.constant" s_Blend_constant f fd) (T : TxtB K mg C aW) (c_need_width : KB.Callee P w K mg base (L2.CX P w) 3 "need_width" ["width"] (spNW cW)) (c_need_word : KB.Callee P w K mg base (L2.CX P w) 5 "need_word" ["width", "value"] (spNeed cR)) (c_Blend___init__ : CalleeI P w K mg base (L2.CX P w) 6 C "Blend" ["self", "width", "shift", "keep", "flip"] (spBlend C cW cS cR)) : FnOk P w K mg base (L2.CX P w) 8 f fd ["cls", "width", "value"] (spConst C cW cR) := by
  refine F.okX sc_Blend_constant (fun vs H Q E h => ?_) (fun cdv A outer s H vs Q E hr h => ?_)
  · obtain ⟨v1, v2, t1, t2, rfl, _⟩ := h
    rfl
  · obtain ⟨v1, v2, t1, t2, rfl, o1, o2, x1, x2, q⟩ := h
    refine ⟨_, (pss_cons (ps_expr (pe_callC c_need_width (hr.mono (by decide)) (by rfl) (passes_call KL.def_takes fun _ _ _ _ h => h) (pa_cons (pv 1) pa_nil)))
 (pss_cons (ps_expr (pe_callC c_need_word (hr.mono (by decide)) (by rfl) (passes_call KL.def_takes fun _ _ _ _ h => h) (pa_cons (pv 1) (pa_cons (pv 2) pa_nil))))
 (pss_one (ps_ret (KP.pe_makeL c_Blend___init__ (hr.mono (by decide)) (passes_call KL.def_takes fun _ _ _ _ h => h) (pv 0) (pa_cons (pv 1) (pa_cons pe_int (pa_cons pe_int (pa_cons (pv 2) pa_nil))))))))), at_start (σ := [some (.ref C), some v1, some v2]) rfl ?_⟩
    try dsimp only [KC.cx_KX]
    walk_at "rd"
    refine ⟨v1, t1, rfl, o1, fun y1 => ?_, x1⟩
    obtain ⟨w, w3, rfl⟩ := isW_of y1
    obtain rfl : v1 = .int w := o1
    walk_at "rd"
    refine ⟨w, v2, t2, rfl, w3, o2, fun y2 => ?_, x2 w rfl w3⟩
    obtain ⟨n, hn, rfl⟩ := isWord_of y2
    obtain rfl : v2 = .int n := o2
    walk_at "rd"
    refine KP.r_makeL ?_
    walk_at "rd"
    refine ⟨rfl, ?_⟩
    walk_at "rd"
    have wl := w3.le
    exact fun x dx nx ndx nxd => make_b (m := 0) nx ndx ⟨w3, by omega, by omega, Nat.two_pow_pos w, hn⟩ fun H' B' sm => q w n rfl rfl w3 hn H' x B' sm

end
end K05


namespace K05
open PySem L2 KB KO KY
def spWord : Sp := fun vs H Q _ => ∃ (pen pc : Addr) (w k : Nat), vs = [.ref pen, .int w] ∧ W3 w ∧ PenC H pen pc (k + 7) ∧ ∀ (n : Nat) H', n < 2 ^ w → PenC H' pen pc k → Keep pen H H' → Q (.int n) H'
/-- what the texts of refusals need -/
structure OkT (t : Dt) : Prop where
  fw : Fit "word" t
  fd : Fit "width" t
  fs : Fit "shift" t
  tw : PyData.strOk (pairD "word" t).shown = true
  ts : PyData.strOk (pairD "shift" t).shown = true
  sh : PyData.showable t.d = true
  dp : t.d.depth ≤ 50
  sz : t.d.shown.length ≤ sizeLine
  nt : isIntD t = false → t.d.shown ∉ (["8", "16", "32"] : List Str)
def okB (t : Dt) : Bool := KD.fitB "word" t && KD.fitB "width" t && KD.fitB "shift" t && PyData.strOk (pairD "word" t).shown && PyData.strOk (pairD "shift" t).shown && PyData.showable t.d && decide (t.d.depth ≤ 50) && decide (t.d.shown.length ≤ 1000) && (isIntD t || !decide (t.d.shown ∈ (["8", "16", "32"] : List Str)))
theorem odd_ok {t : Dt} (h : okB t = true) : OkT t := by
  unfold okB at h
  simp only [Bool.and_eq_true, decide_eq_true_eq] at h
  obtain ⟨⟨⟨⟨⟨⟨⟨⟨h1, h2⟩, h3⟩, h4⟩, h5⟩, h6⟩, h7⟩, h8⟩, h9⟩ := h
  refine ⟨KD.fit_of h1, KD.fit_of h2, KD.fit_of h3, h4, h5, h6, h7, Nat.le_trans h8 (by decide), fun z => ?_⟩
  rw [z, Bool.false_or] at h9
  simpa using h9
theorem int_ok {i : Int} (h : i.natAbs.log2 < 1920) : OkT (.sc (.int i)) := by
  refine ⟨KD.fit_int (by decide +kernel) h, KD.fit_int (by decide +kernel) h, KD.fit_int (by decide +kernel) h, KD.ok_intText (by decide +kernel) i, KD.ok_intText (by decide +kernel) i, ?_, ?_, ?_, fun z => by cases z⟩
  · exact (KD.fit_int (tag := "word") (by decide +kernel) h).ok
  · show (PyData.int i).depth ≤ 50
    simp [PyData.depth]
  · show (Str.ofString (toString i)).length ≤ sizeLine
    exact Nat.le_trans (KBL.num_len h) (by decide)
theorem bits32 {i : Int} (h0 : -4294967297 ≤ i) (h1 : i ≤ 4294967297) : i.natAbs.log2 < 1920 := by
  by_cases z : i = 0
  · rw [z]; decide
  · have := (Nat.log2_lt (k := 34) (show i.natAbs ≠ 0 by omega)).mpr (by omega)
    omega
def OdOk (pen : Addr) (v : V) (H : Hp) : Prop := v ≠ .ref pen ∧ ∃ t, OdAt H v t ∧ OkT t
theorem OdOk.keep {pen : Addr} {v : V} {H H' : Hp} (h : OdOk pen v H) (k : Keep pen H H') : OdOk pen v H' := by
  obtain ⟨n, t, o, f⟩ := h
  exact ⟨n, t, o.to fun a ob e g => k a ob g (fun z => n (by rw [e, z])), f⟩
def OddsAt (pen : Addr) (xs : List V) (H : Hp) : Prop := ∀ v ∈ xs, OdOk pen v H
theorem OddsAt.keep {pen : Addr} {xs : List V} {H H' : Hp} (h : OddsAt pen xs H) (k : Keep pen H H') : OddsAt pen xs H' := fun v m => (h v m).keep k
theorem OddsAt.cat {pen : Addr} {xs ys : List V} {H : Hp} (h : OddsAt pen xs H) (h' : OddsAt pen ys H) : OddsAt pen (xs ++ ys) H := fun v m => by
  rcases List.mem_append.mp m with m | m
  · exact h v m
  · exact h' v m
theorem OddsAt.cons {pen : Addr} {v : V} {ys : List V} {H : Hp} (h : OdOk pen v H) (h' : OddsAt pen ys H) : OddsAt pen (v :: ys) H := fun z m => by
  rcases List.mem_cons.mp m with rfl | m
  · exact h
  · exact h' z m
theorem OddsAt.nil {pen : Addr} {H : Hp} : OddsAt pen [] H := fun z m => absurd m List.not_mem_nil
theorem odd_sc {pen : Addr} {H : Hp} (s : Sc) (h : okB (.sc s) = true) : OdOk pen s.v H := ⟨(fun z => by cases s <;> cases z), .sc s, rfl, odd_ok h⟩
theorem odd_i {pen : Addr} {H : Hp} {i : Int} (h0 : -4294967297 ≤ i) (h1 : i ≤ 4294967297) : OdOk pen (.int i) H := ⟨(fun z => by cases z), .sc (.int i), rfl, int_ok (bits32 h0 h1)⟩
def spWhole : Sp := fun vs H Q _ => ∃ (v : V) (t : Dt), vs = [v] ∧ OdAt H v t ∧ Q (.bl (isIntD t)) H
def spOdds : Sp := fun vs H Q _ => ∃ (pen pc : Addr) (w k : Nat), vs = [.ref pen, .int w] ∧ W3 w ∧ PenC H pen pc (k + 14) ∧ ∀ l xs H', PenC H' pen pc k → Keep pen H H' → H' l = some (.lst xs) → l ≠ pen → xs.length = 26 → OddsAt pen xs H' → Q (.ref l) H'

section
variable {P : Program} {w : World} {K : PySem.W.Frag} {mg : Str → Option Value} {base : Heap}
theorem ok_word {f : Addr} {fd : FuncData} (F : Fun K "_law_word" "_law_word" s__law_word f fd) (T : Txt mg) (c__law_draw : KB.Callee P w K mg base CX0 1 "_law_draw" ["_law_pen_here", "_law_many"] spDraw) : FnOk P w K mg base CX0 2 f fd ["_law_pen_here", "_law_width"] spWord := by
  refine F.ok sc__law_word (fun vs H Q E h => ?_) (fun cdv A outer s H vs Q E hr h => ?_)
  · obtain ⟨pen, pc, w, k, rfl, _⟩ := h
    rfl
  · obtain ⟨pen, pc, w, k, rfl, w3, pn, q⟩ := h
    have wl := w3.le
    have wp := w3.pow
    refine ⟨_, (pss_cons (ps_set (i := 2) sc__law_word.nd rfl (by first | exact Or.inl rfl | exact Or.inr rfl) (pe_dget (hu_of hr) (pe_disp (pps_cons pe_int pe_int (pps_cons pe_int pe_int (pps_cons pe_int pe_int pps_nil))) (by rfl) (by rfl) (fun z => by cases z) (by decide)) (pv 1) (fun _ _ => rfl)))
 (pss_cons (ps_set (i := 3) sc__law_word.nd rfl (by first | exact Or.inl rfl | exact Or.inr rfl) pe_int)
 (pss_cons (ps_for PassesOwn.never rfl (pi_range1 rfl T.z_range (pa_cons (pe_op op_fdiv (pv 1) pe_int) pa_nil)) (pg_name (i := 4) sc__law_word.nd rfl (by first | exact Or.inl rfl | exact Or.inr rfl))
 (pss_one (ps_set (i := 3) sc__law_word.nd rfl (by first | exact Or.inl rfl | exact Or.inr rfl) (pe_op op_add (pe_op op_mul pe_int (pv 3)) (pe_callC c__law_draw (hr.mono (by decide)) (by rfl) pass0 (pa_cons (pv 0) (pa_cons pe_int pa_nil)))))))
 (pss_cons (ps_set (i := 5) sc__law_word.nd rfl (by first | exact Or.inl rfl | exact Or.inr rfl) (pe_op op_shl pe_int (pe_callC c__law_draw (hr.mono (by decide)) (by rfl) pass0 (pa_cons (pv 0) (pa_cons (pv 1) pa_nil)))))
 (pss_one (ps_ret (pe_ix ix_list (pe_lst (pa_cons pe_int (pa_cons (pv 2) (pa_cons (pv 5) (pa_cons (pe_op op_sub (pv 2) (pv 5)) (pa_cons (pv 3) (pa_cons (pv 3) pa_nil))))))) (pe_callC c__law_draw (hr.mono (by decide)) (by rfl) pass0 (pa_cons (pv 0) (pa_cons pe_int pa_nil))) (fun _ _ => rfl)))))))), at_start (σ := [some (.ref pen), some (.int w), none, none, none, none]) rfl ?_⟩
    try dsimp only [cx_K]
    walk_at "rd"
    refine r_wdict w3 (mono_var1 rfl) fun H1 s1 => ?_
    rw [top_is w3]
    have pn1 := pn.up s1
    walk_at "rd"
    have hb : ((w : Int) / 8).toNat ≤ 4 ∧ 256 ^ ((w : Int) / 8).toNat = 2 ^ w := by
      rcases w3 with rfl | rfl | rfl <;> decide
    obtain ⟨hb1, hb2⟩ := hb
    refine ⟨by omega, by omega, ?_⟩
    refine forW (walk_range (lo := 0) (n := ((w : Int) / 8).toNat)) (fun i σ H' => ∃ (y4 : Option V) (m : Nat), σ = [some (.ref pen), some (.int w), some (.int ((KBL.onesN w : Nat) : Int)), some (.int m), y4, none] ∧ m < 256 ^ i ∧ PenC H' pen pc (k + 7 - i) ∧ Keep pen H H')
      ⟨_, 0, rfl, by decide, pn1, Keep.same s1⟩ (fun _ _ _ _ _ => trivial) ?_ ?_
    · rintro i x σ' _ H2 hi ⟨y4, m, rfl, hm, pn2, kp2⟩ ⟨rfl, rfl⟩
      have hm4 : m < 4294967296 := Nat.lt_of_lt_of_le hm (Nat.le_trans (Nat.pow_le_pow_right (by decide) (show i ≤ 4 by omega)) (by decide))
      walk_at "rd"
      refine ⟨pen, pc, 256, k + 7 - (i + 1), rfl, by decide, by decide, pn2.mono (by omega), fun r H3 r0 r1 pn3 kp3 => ?_⟩
      walk_at "rd"
      refine ⟨some (.int (0 + (i : Int))), 256 * m + r.toNat, ?_, ?_, pn3, kp2.tr kp3⟩
      · rw [show ((256 * m + r.toNat : Nat) : Int) = 256 * (m : Int) + r by omega]
        rfl
      · rw [Nat.pow_succ]
        omega
    · rintro σ' H2 ⟨y4, m, rfl, hm, pn2, kp2⟩
      rw [hb2] at hm
      walk_at "rd"
      refine ⟨pen, pc, w, k + 1, rfl, by omega, by omega, pn2.mono (by omega), fun r H3 r0 r1 pn3 kp3 => ?_⟩
      walk_at "rd"
      have er : ((1 : Int) * 2 ^ r.toNat) = ((2 ^ r.toNat : Nat) : Int) := by
        rw [Int.one_mul, Int.natCast_pow]
        rfl
      rw [er]
      have hr2 : 2 ^ r.toNat < 2 ^ w := KBL.two_lt (by omega)
      generalize 2 ^ r.toNat = o at hr2 ⊢
      walk_at "rd"
      refine ⟨by walk_at "sz", fun l nl => ?_⟩
      walk_at "rd"
      have nlp : l ≠ pen := pn3.ne nl
      refine ⟨pen, pc, 6, k, rfl, by decide, by decide, (pn3.up (same_new nl)).mono (by omega), fun r6 H4 a0 a1 pn4 kp4 => ?_⟩
      have hl := kp4 _ _ upd_same nlp
      have kp : Keep pen H H4 := ((kp2.tr kp3).tr (Keep.same (same_new nl))).tr kp4
      have on : KBL.onesN w = 2 ^ w - 1 := rfl
      have fin : ∀ n : Nat, n < 2 ^ w → Q (.int n) H4 := fun n hn => q n H4 hn pn4 kp
      clear kp kp2 kp3 kp4 pn2 pn3 pn4 q
      obtain ⟨j, rfl⟩ : ∃ j : Nat, r6 = (j : Int) := ⟨r6.toNat, by omega⟩
      have hj : j < 6 := by omega
      match j, hj with
      | 0, _ => exact r_ixL (n := 0) (SqL.of hl) rfl (fin 0 (by omega))
      | 1, _ => exact r_ixL (n := 1) (SqL.of hl) rfl (fin _ (by omega))
      | 2, _ => exact r_ixL (n := 2) (SqL.of hl) rfl (fin _ hr2)
      | 3, _ => exact r_ixL (n := 3) (v := .int ((KBL.onesN w - o : Nat) : Int)) (SqL.of hl) (by rw [show ((KBL.onesN w - o : Nat) : Int) = ((KBL.onesN w : Nat) : Int) - (o : Int) by omega]; rfl) (fin _ (by omega))
      | 4, _ => exact r_ixL (n := 4) (SqL.of hl) rfl (fin _ hm)
      | 5, _ => exact r_ixL (n := 5) (SqL.of hl) rfl (fin _ hm)
      | j + 6, h => exact absurd h (by omega)

theorem ok_whole {f : Addr} {fd : FuncData} (F : Fun K "_law_whole" "_law_whole" s__law_whole f fd) (T : Txt mg) : FnOk P w K mg base CX0 1 f fd ["_law_thing"] spWhole := by
  refine F.ok sc__law_whole (fun vs H Q E h => ?_) (fun cdv A outer s H vs Q E hr h => ?_)
  · obtain ⟨v, t, rfl, _⟩ := h
    rfl
  · obtain ⟨v, t, rfl, od, q⟩ := h
    refine ⟨_, (pss_one (ps_ret (pe_and (pe_callB call_isi (by rfl) T.z_isinstance (by decide +kernel) (pa_cons (pv 0) (pa_cons (pe_bltn (v := .ty "int") (by rfl) T.z_int (by decide +kernel) rfl) pa_nil))) (pe_one (pe_not (pe_callB call_isi (by rfl) T.z_isinstance (by decide +kernel) (pa_cons (pv 0) (pa_cons (pe_bltn (v := .ty "bool") (by rfl) T.z_bool (by decide +kernel) rfl) pa_nil)))))))), at_start (σ := [some v]) rfl ?_⟩
    try dsimp only [cx_K]
    walk_at "rd"
    refine r_isIntD od ?_
    walk_at "rd"
    refine r_iteB (fun h => ?_) (fun h => ?_)
    · walk_at "rd"
      refine r_isBoolD od ?_
      walk_at "rd"
      have e : (!isBoolD t) = isIntD t := by
        cases t with
        | sc s => cases s <;> first | rfl | cases h
        | tup => cases h
        | lst => cases h
        | dct => cases h
      rw [e]
      exact q
    · have e : isIntD t = false := by
        cases hh : isIntD t with
        | false => rfl
        | true => rw [hh] at h; cases h
      rw [e] at q
      exact q
theorem ok_odd {f : Addr} {fd : FuncData} (F : Fun K "_law_odd" "_law_odd" s__law_odd f fd) (T : Txt mg) (c__law_word : KB.Callee P w K mg base CX0 2 "_law_word" ["_law_pen_here", "_law_width"] spWord) : FnOk P w K mg base CX0 3 f fd ["_law_pen_here", "_law_width"] spOdds := by
  refine F.ok sc__law_odd (fun vs H Q E h => ?_) (fun cdv A outer s H vs Q E hr h => ?_)
  · obtain ⟨pen, pc, w, k, rfl, _⟩ := h
    rfl
  · obtain ⟨pen, pc, w, k, rfl, w3, pn, q⟩ := h
    have wl := w3.le
    have wp := w3.pow
    refine ⟨_, (pss_cons (ps_set (i := 2) sc__law_odd.nd rfl (by first | exact Or.inl rfl | exact Or.inr rfl) (pe_dget (hu_of hr) (pe_disp (pps_cons pe_int pe_int (pps_cons pe_int pe_int (pps_cons pe_int pe_int pps_nil))) (by rfl) (by rfl) (fun z => by cases z) (by decide)) (pv 1) (fun _ _ => rfl)))
 (pss_cons (ps_set (i := 3) sc__law_odd.nd rfl (by first | exact Or.inl rfl | exact Or.inr rfl) (pe_lst (pa_cons pe_non (pa_cons pe_bl (pa_cons pe_bl (pa_cons pe_str (pa_cons pe_str (pa_cons (pe_tup pa_nil) (pa_cons (pe_lst pa_nil) (pa_cons pe_dnewK (pa_cons (pe_tup (pa_cons pe_int pa_nil)) (pa_cons (pe_lst (pa_cons pe_int pa_nil)) (pa_cons (pe_un un_neg pe_int) (pa_cons pe_int (pa_cons pe_int (pa_cons (pv 1) (pa_cons (pe_op op_add (pv 1) pe_int) (pa_cons (pe_op op_sub pe_int (pv 1)) (pa_cons (pe_op op_sub (pe_op op_sub pe_int (pv 1)) pe_int) pa_nil)))))))))))))))))))
 (pss_cons (ps_set (i := 3) sc__law_odd.nd rfl (by first | exact Or.inl rfl | exact Or.inr rfl) (pe_op op_cat (pv 3) (pe_lst (pa_cons (pv 2) (pa_cons (pe_op op_add (pv 2) pe_int) (pa_cons (pe_op op_sub pe_int (pv 2)) (pa_cons (pe_op op_pow pe_int pe_int) (pa_cons (pe_op op_sub pe_int (pe_op op_pow pe_int pe_int)) (pa_cons (pe_callC c__law_word (hr.mono (by decide)) (by rfl) pass0 (pa_cons (pv 0) (pa_cons (pv 1) pa_nil))) (pa_cons (pe_op op_sub pe_int (pe_callC c__law_word (hr.mono (by decide)) (by rfl) pass0 (pa_cons (pv 0) (pa_cons (pv 1) pa_nil)))) pa_nil))))))))))
 (pss_one (ps_ret (pe_op op_cat (pv 3) (pe_lst (pa_cons pe_str (pa_cons (pe_disp (pps_cons pe_str pe_int pps_nil) (by rfl) (by rfl) (fun z => by cases z) (by decide)) pa_nil))))))))), at_start (σ := [some (.ref pen), some (.int w), none, none]) rfl ?_⟩
    try dsimp only [cx_K]
    walk_at "rd"
    refine r_wdict w3 (mono_var1 rfl) fun H0 s0 => ?_
    rw [top_is w3]
    have on : KBL.onesN w < 2 ^ w := KBL.ones_lt w
    generalize KBL.onesN w = top at on ⊢
    have pn0 := pn.up s0
    walk_at "rd"
    refine ⟨by walk_at "sz", fun c1 n1 => ?_⟩
    walk_at "rd"
    refine ⟨by walk_at "sz", fun c2 n2 => ?_⟩
    walk_at "rd"
    intro c3 n3
    walk_at "rd"
    refine ⟨by walk_at "sz", fun c4 n4 => ?_⟩
    walk_at "rd"
    refine ⟨by walk_at "sz", fun c6 n6 => ?_⟩
    walk_at "rd"
    refine ⟨by walk_at "sz", fun c5 n5 => ?_⟩
    generalize hH5 : upd (upd (upd (upd (upd (upd H0 c1 _) c2 _) c3 _) c4 _) c6 _) c5 _ = H5
    have s5 : Same H0 H5 := hH5 ▸ (((((same_new n1).trans (same_new n2)).trans (same_new n3)).trans (same_new n4)).trans (same_new n6)).trans (same_new n5)
    have g1 : H5 c1 = some (.tup []) := by rw [← hH5]; walk_at "hp"
    have g2 : H5 c2 = some (.lst []) := by rw [← hH5]; walk_at "hp"
    have g3 : H5 c3 = some (.dK []) := by rw [← hH5]; walk_at "hp"
    have g4 : H5 c4 = some (.tup [.int 1]) := by rw [← hH5]; walk_at "hp"
    have g6 : H5 c6 = some (.lst [.int 1]) := by rw [← hH5]; walk_at "hp"
    have g5 : H5 c5 = some (.lst [.non, .bl true, .bl false, .str "", .str "1", .ref c1, .ref c2, .ref c3, .ref c4, .ref c6, .int (-1), .int 0, .int 1, .int w, .int (w + 1), .int (0 - w), .int (0 - w - 1)]) := by rw [← hH5]; walk_at "hp"
    have p1 : c1 ≠ pen := pn0.ne n1
    have p2 : c2 ≠ pen := (pn0.up (same_new n1)).ne n2
    have p3 : c3 ≠ pen := ((pn0.up (same_new n1)).up (same_new n2)).ne n3
    have p4 : c4 ≠ pen := (((pn0.up (same_new n1)).up (same_new n2)).up (same_new n3)).ne n4
    have p6 : c6 ≠ pen := ((((pn0.up (same_new n1)).up (same_new n2)).up (same_new n3)).up (same_new n4)).ne n6
    have p5 : c5 ≠ pen := (((((pn0.up (same_new n1)).up (same_new n2)).up (same_new n3)).up (same_new n4)).up (same_new n6)).ne n5
    have pn5 := pn0.up s5
    have o5 : OddsAt pen [.non, .bl true, .bl false, .str "", .str "1", .ref c1, .ref c2, .ref c3, .ref c4, .ref c6, .int (-1), .int 0, .int 1, .int w, .int (w + 1), .int (0 - w), .int (0 - w - 1)] H5 :=
      .cons (odd_sc .non (by decide +kernel)) (.cons (odd_sc (.bl true) (by decide +kernel)) (.cons (odd_sc (.bl false) (by decide +kernel)) (.cons (odd_sc (.str "") (by decide +kernel)) (.cons (odd_sc (.str "1") (by decide +kernel))
        (.cons ⟨(fun z => p1 (by cases z; rfl)), .tup [], ⟨c1, rfl, g1⟩, odd_ok (by decide +kernel)⟩
        (.cons ⟨(fun z => p2 (by cases z; rfl)), .lst [], ⟨c2, rfl, g2⟩, odd_ok (by decide +kernel)⟩
        (.cons ⟨(fun z => p3 (by cases z; rfl)), .dct [], ⟨c3, rfl, g3⟩, odd_ok (by decide +kernel)⟩
        (.cons ⟨(fun z => p4 (by cases z; rfl)), .tup [.int 1], ⟨c4, rfl, g4⟩, odd_ok (by decide +kernel)⟩
        (.cons ⟨(fun z => p6 (by cases z; rfl)), .lst [.int 1], ⟨c6, rfl, g6⟩, odd_ok (by decide +kernel)⟩
        (.cons (odd_i (by omega) (by omega)) (.cons (odd_i (by omega) (by omega)) (.cons (odd_i (by omega) (by omega)) (.cons (odd_i (by omega) (by omega)) (.cons (odd_i (by omega) (by omega)) (.cons (odd_i (by omega) (by omega)) (.cons (odd_i (by omega) (by omega)) .nil))))))))))))))))
    have kp5 : Keep pen H H5 := Keep.same (s0.trans s5)
    clear hH5 n1 n2 n3 n4 n5 n6 g1 g2 g3 g4 g6 s5 pn pn0 p1 p2 p3 p4 p6 s0
    generalize eL1 : ([.non, .bl true, .bl false, .str "", .str "1", .ref c1, .ref c2, .ref c3, .ref c4, .ref c6, .int (-1), .int 0, .int 1, .int w, .int (w + 1), .int (0 - w), .int (0 - w - 1)] : List V) = L1 at g5 o5
    have hl1 : L1.length = 17 := by rw [← eL1]; rfl
    clear eL1
    walk_at "rd"
    refine ⟨pen, pc, w, k + 7, rfl, w3, pn5, fun m1 H6 b1 pn6 kp6 => ?_⟩
    walk_at "rd"
    refine ⟨pen, pc, w, k, rfl, w3, pn6, fun m2 H7 b2 pn7 kp7 => ?_⟩
    walk_at "rd"
    have kd := kp6.tr kp7
    have g57 := kd _ _ g5 p5
    have o57 := o5.keep kd
    have kpH7 := kp5.tr kd
    clear o5 g5 kp6 kp7 kd pn5 pn6
    refine ⟨by walk_at "sz", fun d2 m3 => ?_⟩
    refine r_cat (upd_new m3 g57) upd_same (by rw [hl1]; walk_at "sz") fun d3 m4 => ?_
    have o8 : OddsAt pen [.int top, .int (top + 1), .int (0 - top), .int (10 ^ Int.toNat 59), .int (0 - 10 ^ Int.toNat 59), .int m1, .int (0 - m2)] H7 :=
      .cons (odd_i (by omega) (by omega)) (.cons (odd_i (by omega) (by omega)) (.cons (odd_i (by omega) (by omega)) (.cons (odd_sc (.int (10 ^ 59)) (by decide +kernel)) (.cons (odd_sc (.int (0 - 10 ^ 59)) (by decide +kernel)) (.cons (odd_i (by omega) (by omega)) (.cons (odd_i (by omega) (by omega)) .nil))))))
    generalize eL2 : ([.int top, .int (top + 1), .int (0 - top), .int (10 ^ Int.toNat 59), .int (0 - 10 ^ Int.toNat 59), .int m1, .int (0 - m2)] : List V) = L2' at o8 m4 ⊢
    have hl2 : L2'.length = 7 := by rw [← eL2]; rfl
    clear eL2
    have s8 := (same_new (o := .lst L2') m3).trans (same_new (o := .lst (L1 ++ L2')) m4)
    have g8 : upd (upd H7 d2 (.lst L2')) d3 (.lst (L1 ++ L2')) d3 = _ := upd_same
    have p8 : d3 ≠ pen := (pn7.up (same_new m3)).ne m4
    have o9 := (o57.cat o8).keep (Keep.same s8)
    have pn8 := pn7.up s8
    have kp8 := kpH7.tr (Keep.same s8)
    generalize upd (upd H7 d2 (.lst L2')) d3 (.lst (L1 ++ L2')) = H8 at s8 g8 o9 pn8 kp8 ⊢
    clear o8 o57 g57 s8 m3 m4 kpH7 pn7
    walk_at "rd"
    intro e1 z1
    refine ⟨upd_same, [(.inr "a", .int 1)], rfl, by simp, ?_⟩
    have se := same_mut (o := .dK (mergeK [] [((Sum.inr "a" : Key), V.int 1)])) (same_new (o := .dK []) z1) z1
    have ge : upd (upd H8 e1 (.dK [])) e1 (.dK (mergeK [] [((Sum.inr "a" : Key), V.int 1)])) e1 = _ := upd_same
    have pe : e1 ≠ pen := pn8.ne z1
    generalize upd (upd H8 e1 (.dK [])) e1 (.dK (mergeK [] [((Sum.inr "a" : Key), V.int 1)])) = H9 at se ge ⊢
    walk_at "rd"
    refine ⟨by walk_at "sz", fun d4 m4 => ?_⟩
    refine r_cat (upd_new m4 (se _ _ g8)) upd_same (by rw [List.length_append, hl1, hl2]; walk_at "sz") fun d5 m5 => ?_
    have sz := (same_new (o := .lst [.str "8", .ref e1]) m4).trans (same_new (o := .lst (L1 ++ L2' ++ [.str "8", .ref e1])) m5)
    have s9 := se.trans sz
    refine q d5 _ _ (pn8.up s9) (kp8.tr (Keep.same s9)) upd_same (((pn8.up se).up (same_new m4)).ne m5) (by rw [List.length_append, List.length_append, hl1, hl2]; rfl) ?_
    refine (o9.keep (Keep.same s9)).cat ?_
    exact .cons (odd_sc (.str "8") (by decide +kernel)) (.cons ⟨(fun z => pe (by cases z; rfl)), .dct [(.inr "a", .int 1)], ⟨e1, rfl, sz _ _ ge⟩, odd_ok (by decide +kernel)⟩ .nil)
end
end K05


namespace K05
open PySem L2 KB KO KY
/-! ### _law_heard -/
structure TxtE (K : PySem.W.Frag) (mg : Str → Option Value) (CB : Addr) (c : Nat → Addr) : Prop extends Txt mg where
  mg_BitError : mg "BitError" = some (.ref CB)
  mg_InvalidWidth : mg "InvalidWidth" = some (.ref (c 0))
  mg_InvalidLane : mg "InvalidLane" = some (.ref (c 1))
  mg_InvalidWord : mg "InvalidWord" = some (.ref (c 2))
  mg_InvalidShift : mg "InvalidShift" = some (.ref (c 3))
  mg_InvalidKind : mg "InvalidKind" = some (.ref (c 4))
  mg_InvalidLetters : mg "InvalidLetters" = some (.ref (c 5))
def errNames : List Str := ["width", "lane", "word", "shift", "kind"]
def errName (i : Nat) : Str := errNames.getD i ""
structure ErrAt (K : PySem.W.Frag) (CB : Addr) (c : Nat → Addr) (i : Nat) : Prop where
  lt : i < 5
  bit : PySem.W.exmOne K (.ref (c i)) (.ref CB) = some true
  exc : ExcC K (c i)
  xf : XfC K (c i)
  nof : PySem.W.findIn K (.ref (c i)) "value" = some none
  kit : ∀ j, j < 6 → PySem.W.kitOne K (.ref (c i)) (.ref (c j)) = some (decide (i = j))
  ve : PySem.W.kitOne K (.ref (c i)) (.type "ValueError") = some true
def echo (K : PySem.W.Frag) (CB : Addr) (c : Nat → Addr) (Q : VK) : XK := fun cls d H' => ∃ (i : Nat) (dd : Addr) (v : V) (t : Dt), ErrAt K CB c i ∧ cls = .ref (c i) ∧ d = some dd ∧ H' dd = some (.xd [("value", v)]) ∧ OdAt H' v t ∧ Fit (errName i) t ∧ ∀ H2, Same H' H2 → Q (.str (pairD (errName i) t).shown) H2
def TH (P : Program) (w : World) (K : PySem.W.Frag) (CB : Addr) (c : Nat → Addr) (C : Addr) : (XK → Hp → VK → Prop) → Hp → VK → Prop := fun tl H Q =>
  tl (echo K CB c Q) H (fun v H1 => ([V.str "told", v] : List V).length ≤ sizeLine ∧ ∀ p, H1 p = none → (rReprT [.ref p] (upd H1 p (.lst [.str "told", v])) Q ∨ KP.rReprL P w C (spBRepr C) [.ref p] (upd H1 p (.lst [.str "told", v])) Q))
theorem marks_one {i : Nat} (h : i < 5) : ([decide (i = 0), decide (i = 1), decide (i = 2), decide (i = 3), decide (i = 4), decide (i = 5)] : List Bool).count true = 1 := by
  match i, h with
  | 0, _ => decide
  | 1, _ => decide
  | 2, _ => decide
  | 3, _ => decide
  | 4, _ => decide
  | i + 5, h => exact absurd h (by omega)
theorem marks_ix {i : Nat} (h : i < 5) : ∃ z, ([.bl (decide (i = 0)), .bl (decide (i = 1)), .bl (decide (i = 2)), .bl (decide (i = 3)), .bl (decide (i = 4)), .bl (decide (i = 5))] : List V)[i]? = some z ∧ eqV z (.bl true) = true ∧
    ∀ (m : Nat) (z' : V), m < i → ([.bl (decide (i = 0)), .bl (decide (i = 1)), .bl (decide (i = 2)), .bl (decide (i = 3)), .bl (decide (i = 4)), .bl (decide (i = 5))] : List V)[m]? = some z' → eqV z' (.bl true) = false := by
  match i, h with
  | 0, _ => exact ⟨_, rfl, rfl, fun m z' hm e => absurd hm (by omega)⟩
  | 1, _ => exact ⟨_, rfl, rfl, fun m z' hm e => by match m, hm, e with | 0, _, e => cases e; rfl⟩
  | 2, _ => exact ⟨_, rfl, rfl, fun m z' hm e => by match m, hm, e with | 0, _, e => (cases e; rfl) | 1, _, e => (cases e; rfl)⟩
  | 3, _ => exact ⟨_, rfl, rfl, fun m z' hm e => by match m, hm, e with | 0, _, e => (cases e; rfl) | 1, _, e => (cases e; rfl) | 2, _, e => (cases e; rfl)⟩
  | 4, _ => exact ⟨_, rfl, rfl, fun m z' hm e => by match m, hm, e with | 0, _, e => (cases e; rfl) | 1, _, e => (cases e; rfl) | 2, _, e => (cases e; rfl) | 3, _, e => (cases e; rfl)⟩
  | i + 5, h => exact absurd h (by omega)
theorem name_at {i : Nat} (h : i < 5) : atI (errNames.map V.str) (i : Int) = some (.str (errName i)) := by
  match i, h with
  | 0, _ => rfl
  | 1, _ => rfl
  | 2, _ => rfl
  | 3, _ => rfl
  | 4, _ => rfl
  | i + 5, h => exact absurd h (by omega)
abbrev hX (X : Cx) (g : Addr) (cdg : Value) (s : Shared) (H : Hp) : Cx := cxOf C8.CX0 X.prog X.w X.K X.mg X.base ["_law_ask", "_law_caught", "error", "_law_marks"] "_law_heard" (defScope s__law_heard) g cdg X.A X.stack s H C8.E0


open LamX in
theorem heard_gives {X : Cx} {CB C g : Addr} {c : Nat → Addr} {cdg : Value} {q : Str} (T : TxtE X.K X.mg CB c) (rp : OwnM X.prog X.w X.K X.mg X.base 1 C "__repr__" ["self"] (spBRepr C)) (fr0 : KG.Free X.A) (room : Room 3 X.A) :
    GivesTo X ["_law_ask", "_law_caught", "error", "_law_marks"] "_law_heard" (defScope s__law_heard) g cdg (defBody s__law_heard) "_law_ask" q (TH X.prog X.w X.K CB c C) := by
  intro f c' s H Q tl act hc h
  have hr : Room 2 (hX X g cdg s H).A := room.deeper _
  have fr : KG.Free (hX X g cdg s H).A := fr0
  refine ⟨_, pss_cons (ps_set (i := 1) sc__law_heard.nd rfl (by first | exact Or.inl rfl | exact Or.inr rfl) pe_non)
    (pss_cons (KX.ps_try_keep (X := (hX X g cdg s H).nox) (c := .ref CB) (i := 2)
      (tb := fun W D σ H => ∃ Ech : XK, (∀ cls d σ' H', σ'.length = 4 → Ech cls d H' → W cls d σ' H') ∧ σ[0]? = some (some (.ref f)) ∧ H c' = some (CodeO c' q) ∧ tl Ech H (fun v H1 => ([V.str "told", v] : List V).length ≤ sizeLine ∧ ∀ p, H1 p = none → (rReprT [.ref p] (upd H1 p (.lst [.str "told", v])) D.rt ∨ KP.rReprL X.prog X.w C (spBRepr C) [.ref p] (upd H1 p (.lst [.str "told", v])) D.rt)))
      rfl rfl sc__law_heard.nd rfl rfl ⟨rfl, by decide, .inl T.mg_BitError⟩ L2.takes0 rfl (fun W pn xe tk _ => ?_) (fun a oe cls d pn _ _ => pss_one (ps_set (i := 1) sc__law_heard.nd rfl (by first | exact Or.inl rfl | exact Or.inr rfl) (pv 2))))
    (pss_cons (ps_set (i := 3) sc__law_heard.nd rfl (by first | exact Or.inl rfl | exact Or.inr rfl) (pe_lst (pa_cons (pe_callB KX.call_isH (by rfl) T.z_isinstance (by decide +kernel) (pa_cons (pv 1) (pa_cons (pe_glob (v := .ref _) (by rfl) T.mg_InvalidWidth rfl) pa_nil))) (pa_cons (pe_callB KX.call_isH (by rfl) T.z_isinstance (by decide +kernel) (pa_cons (pv 1) (pa_cons (pe_glob (v := .ref _) (by rfl) T.mg_InvalidLane rfl) pa_nil))) (pa_cons (pe_callB KX.call_isH (by rfl) T.z_isinstance (by decide +kernel) (pa_cons (pv 1) (pa_cons (pe_glob (v := .ref _) (by rfl) T.mg_InvalidWord rfl) pa_nil))) pa_nil)))))
 (pss_cons (ps_set (i := 3) sc__law_heard.nd rfl (by first | exact Or.inl rfl | exact Or.inr rfl) (pe_op op_cat (pv 3) (pe_lst (pa_cons (pe_callB KX.call_isH (by rfl) T.z_isinstance (by decide +kernel) (pa_cons (pv 1) (pa_cons (pe_glob (v := .ref _) (by rfl) T.mg_InvalidShift rfl) pa_nil))) (pa_cons (pe_callB KX.call_isH (by rfl) T.z_isinstance (by decide +kernel) (pa_cons (pv 1) (pa_cons (pe_glob (v := .ref _) (by rfl) T.mg_InvalidKind rfl) pa_nil))) pa_nil)))))
 (pss_cons (ps_expr (pe_bm PySem.F.plainAttrs_list PySem.F.slot_list_append PySem.F.type_list_append mt_append (pv 3) (pa_cons (pe_callB KX.call_isH (by rfl) T.z_isinstance (by decide +kernel) (pa_cons (pv 1) (pa_cons (pe_glob (v := .ref _) (by rfl) T.mg_InvalidLetters rfl) pa_nil))) pa_nil)))
 (pss_cons (ps_if (PW.pt (pw_or (pt_cmpR op_ne (pe_bm PySem.F.plainAttrs_list PySem.F.slot_list_count PySem.F.type_list_count KY.mt_countB (pv 3) (pa_cons pe_bl pa_nil)) pe_int (nomark _)) (pw_or1 (pt_not (pt_val (pe_callB KX.call_isH (by rfl) T.z_isinstance (by decide +kernel) (pa_cons (pv 1) (pa_cons (pe_bltn (v := .ty "ValueError") (by rfl) T.z_ValueError (by decide +kernel) rfl) pa_nil)))))))) (pss_one (ps_ret pe_str))
 pss_nil)
 (pss_cons (ps_if (pt_val (pe_ix ix_list (pv 3) pe_int (fun _ _ => rfl))) (pss_one (ps_ret (pe_callB (KY.call_reprT fr hr) (by rfl) T.z_repr (by decide +kernel) (pa_cons (pe_lst (pa_cons pe_str (pa_cons (KX.pe_xh (pv 1)) pa_nil))) pa_nil))))
 pss_nil)
 (pss_one (ps_ret (pe_callB (KY.call_reprT fr hr) (by rfl) T.z_repr (by decide +kernel) (pa_cons (pe_lst (pa_cons (pe_ix ix_list (pe_lst (pa_cons pe_str (pa_cons pe_str (pa_cons pe_str (pa_cons pe_str (pa_cons pe_str pa_nil)))))) (pe_bm PySem.F.plainAttrs_list PySem.F.slot_list_index PySem.F.type_list_index mt_index (pv 3) (pa_cons pe_bl pa_nil)) (fun _ _ => rfl)) (pa_cons (KX.pe_xh (pv 1)) pa_nil))) pa_nil)))))))))), ?_⟩
  · refine ⟨fun pins s' σ H' D I h' => ?_⟩
    obtain ⟨Ech, hW, h1, h2, h3⟩ := h'
    exact PSs.run (X := (hX X g cdg s H).tr pn xe) (pss_one (ps_ret (pe_callB (KP.call_or (KY.call_reprT (X := (hX X g cdg s H).tr pn xe) fr hr) (KP.call_reprL (X := (hX X g cdg s H).tr pn xe) rp fr (hr.mono (by decide)))) (by rfl) T.z_repr (by decide +kernel) (pa_cons (pe_lst (pa_cons pe_str (pa_cons (act (fun cls d σ H => σ.length = 4 → W cls d σ H) pn xe Ech _ _ (KL.takes_len tk) (fun cls d σ' H' e hl => hW cls d σ' H' hl e)) pa_nil))) pa_nil)))) pins s' σ H' D I ⟨h1, h2, h3⟩
  · refine at_start (σ := [some (.ref f), none, none, none]) rfl ?_
    walk_at "rd"
    have eK : (hX X g cdg s H).K = X.K := rfl
    have eK2 : (hX X g cdg s H).nox.K = X.K := rfl
    simp only [eK, eK2]
    refine ⟨echo X.K CB c Q, fun cls d σ' H' hl he => ?_, rfl, hc, h⟩
    obtain ⟨i, dd, v, t, ea, rfl, rfl, hd, od, fit, z⟩ := he
    refine ⟨true, ea.bit, fun _ a na => ?_, fun z => by cases z⟩
    obtain ⟨x0, x1, x2, x3, rfl⟩ : ∃ x0 x1 x2 x3, σ' = [x0, x1, x2, x3] := by
      match σ', hl with
      | [x0, x1, x2, x3], _ => exact ⟨_, _, _, _, rfl⟩
    have g1 : upd H' a (KX.exh a (.ref (c i)) (some dd)) a = some (KX.exh a (.ref (c i)) (some dd)) := upd_same
    have g2 : upd H' a (KX.exh a (.ref (c i)) (some dd)) dd = some (.xd [("value", v)]) := upd_new na hd
    have sa : Same H' (upd H' a (KX.exh a (.ref (c i)) (some dd))) := same_new na
    walk_at "rd"
    generalize upd H' a (KX.exh a (.ref (c i)) (some dd)) = H1 at g1 g2 sa ⊢
    refine ⟨a, c i, dd, _, _, _, _, rfl, g1, g2, ea.exc, .own _, ea.kit 0 (by decide), ?_⟩
    walk_at "rd"
    refine ⟨a, c i, dd, _, _, _, _, rfl, g1, g2, ea.exc, .own _, ea.kit 1 (by decide), ?_⟩
    walk_at "rd"
    refine ⟨a, c i, dd, _, _, _, _, rfl, g1, g2, ea.exc, .own _, ea.kit 2 (by decide), ?_⟩
    walk_at "rd"
    refine ⟨by walk_at "sz", fun c1 n1 => ?_⟩
    walk_at "rd"
    refine ⟨a, c i, dd, _, _, _, _, rfl, upd_new n1 g1, upd_new n1 g2, ea.exc, .own _, ea.kit 3 (by decide), ?_⟩
    walk_at "rd"
    refine ⟨a, c i, dd, _, _, _, _, rfl, upd_new n1 g1, upd_new n1 g2, ea.exc, .own _, ea.kit 4 (by decide), ?_⟩
    walk_at "rd"
    refine ⟨by walk_at "sz", fun c2 n2 => ?_⟩
    refine r_cat (upd_new n2 upd_same) upd_same (by walk_at "sz") fun c3 n3 => ?_
    dsimp only [List.cons_append, List.nil_append]
    generalize hH3 : upd (upd (upd H1 c1 _) c2 _) c3 _ = H3
    have s3 : Same H1 H3 := hH3 ▸ (((same_new n1).trans (same_new n2)).trans (same_new n3))
    have g3 : H3 c3 = some (.lst [.bl (decide (i = 0)), .bl (decide (i = 1)), .bl (decide (i = 2)), .bl (decide (i = 3)), .bl (decide (i = 4))]) := by rw [← hH3]; walk_at "hp"
    have f3 : H1 c3 = none := by
      cases e : H1 c3 with
      | none => rfl
      | some o => rw [upd_new n2 (upd_new n1 e)] at n3; cases n3
    clear hH3 n1 n2 n3
    walk_at "rd"
    refine ⟨a, c i, dd, _, _, _, _, rfl, s3 _ _ g1, s3 _ _ g2, ea.exc, .own _, ea.kit 5 (by decide), ?_⟩
    walk_at "rd"
    refine r_append g3 (by walk_at "sz") ?_
    dsimp only [List.cons_append, List.nil_append]
    generalize hH4 : upd H3 c3 _ = H4
    have s4 : Same H1 H4 := hH4 ▸ same_mut s3 f3
    have g4 : H4 c3 = some (.lst [.bl (decide (i = 0)), .bl (decide (i = 1)), .bl (decide (i = 2)), .bl (decide (i = 3)), .bl (decide (i = 4)), .bl (decide (i = 5))]) := by rw [← hH4]; exact upd_same
    clear hH4 g3 s3
    have n5 : decide (i = 5) = false := decide_eq_false (by have := ea.lt; omega)
    walk_at "rd"
    refine ⟨c3, [decide (i = 0), decide (i = 1), decide (i = 2), decide (i = 3), decide (i = 4), decide (i = 5)], true, rfl, rfl, SqL.of g4, ?_⟩
    rw [marks_one ea.lt]
    walk_at "rd"
    refine r_iteNF rfl ?_
    walk_at "rd"
    refine ⟨a, c i, dd, _, _, _, true, rfl, s4 _ _ g1, s4 _ _ g2, ea.exc, .ty _, ea.ve, ?_⟩
    walk_at "rd"
    rw [n5]
    walk_at "rd"
    refine ⟨by walk_at "sz", fun c5 e5 => ?_⟩
    walk_at "rd"
    obtain ⟨z0, y1, y2, y3⟩ := marks_ix ea.lt
    refine ⟨c3, _, .bl true, i, z0, rfl, rfl, SqL.of (upd_new e5 g4), rfl, rfl, y1, y2, y3, ?_⟩
    refine r_ixL (xs := errNames.map V.str) (SqL.of upd_same) (name_at ea.lt) ?_
    walk_at "rd"
    refine ⟨_, rfl, a, c i, dd, _, v, rfl, upd_new e5 (s4 _ _ g1), upd_new e5 (s4 _ _ g2), ea.xf, ea.nof, rfl, ?_⟩
    walk_at "rd"
    refine ⟨by walk_at "sz", fun c6 n6 => ?_⟩
    walk_at "rd"
    have sz := ((sa.trans s4).trans (same_new (o := .lst (errNames.map V.str)) e5)).trans (same_new (o := .lst [.str (errName i), v]) n6)
    exact ⟨c6, errName i, v, t, rfl, upd_same, od.same sz, fit, z _ sz⟩

end K05


namespace K05
open PySem L2 KB KO KY
abbrev qO : Str := "_law_operations_right.<locals>.<lambda>"
abbrev qM : Str := "_law_made_right.<locals>.<lambda>"
abbrev qL : Str := "law.<locals>.<lambda>"
/-! ### how the texts begin -/
theorem cut_pre {z : Str} {l r : List Nat} {n : Nat} (h : z.cps.toList = l ++ r) (hn : n ≤ l.length) : cutS z none (some (n : Int)) = ⟨(l.take n).toArray⟩ := by
  have hz : n ≤ z.length := by
    show n ≤ z.cps.size
    rw [← Array.length_toList, h, List.length_append]
    omega
  unfold cutS
  rw [HT.sIx_none, HT.sIx_nat, List.drop_zero, Nat.sub_zero, h, Nat.min_eq_left hz, List.take_append_of_le_length hn]
/-- the signs of a pair's text -/
theorem pair_list (a b : Str) : (listText [a, b]).cps.toList = 91 :: (a.cps.toList ++ 44 :: 32 :: (b.cps.toList ++ [93])) := by
  have e1 : (Str.ofString "[").cps.toList = [91] := by decide +kernel
  have e2 : (Str.ofString "]").cps.toList = [93] := by decide +kernel
  have e3 : (Str.ofString (if 0 > 0 then ", " else "")).cps.toList = [] := by decide +kernel
  have e4 : (Str.ofString (if 0 + 1 > 0 then ", " else "")).cps.toList = [44, 32] := by decide +kernel
  have ap : ∀ x y : Str, (x ++ y).cps.toList = x.cps.toList ++ y.cps.toList := fun x y => by
    show (x.cps ++ y.cps).toList = _
    rw [Array.toList_append]
  simp only [listText, textFrom, ap, e1, e2, e3, e4]
  simp
def tBlend (w : Nat) (s : Int) (k f : Nat) : Str := listText [reprText "told", KBL.bText w s k f]
theorem told_s : (reprText "told").cps.toList = [39, 116, 111, 108, 100, 39] := by decide +kernel
theorem word_s : (reprText "word").cps.toList = [39, 119, 111, 114, 100, 39] := by decide +kernel
theorem shift_s : (reprText "shift").cps.toList = [39, 115, 104, 105, 102, 116, 39] := by decide +kernel
theorem blend_7 (w : Nat) (s : Int) (k f : Nat) : cutS (tBlend w s k f) none (some 7) = "['told'" := by
  have h : (tBlend w s k f).cps.toList = [91, 39, 116, 111, 108, 100, 39] ++ 44 :: 32 :: ((KBL.bText w s k f).cps.toList ++ [93]) := by
    unfold tBlend
    rw [pair_list, told_s]
    rfl
  rw [show (7 : Int) = ((7 : Nat) : Int) from rfl, cut_pre h (by decide)]
  decide +kernel
theorem blend_14 (w : Nat) (s : Int) (k f : Nat) : cutS (tBlend w s k f) none (some 14) = "['told', Blend" := by
  have h : (tBlend w s k f).cps.toList = [91, 39, 116, 111, 108, 100, 39, 44, 32, 66, 108, 101, 110, 100, 40] ++ (((KBL.bText w s k f).cps.toList ++ [93]).drop 6) := by
    unfold tBlend
    rw [pair_list, told_s, KBL.bText_list]
    rfl
  rw [show (14 : Int) = ((14 : Nat) : Int) from rfl, cut_pre h (by decide)]
  decide +kernel
theorem pairD_shown (tag : Str) (t : Dt) : (pairD tag t).shown = listText [reprText tag, t.d.shown] := by
  simp only [pairD, PyData.shown, PyData.shownAll]
theorem told_7 (t : Dt) : cutS (pairD "told" t).shown none (some 7) = "['told'" := by
  have h : (pairD "told" t).shown.cps.toList = [91, 39, 116, 111, 108, 100, 39] ++ 44 :: 32 :: (t.d.shown.cps.toList ++ [93]) := by
    rw [pairD_shown, pair_list, told_s]
    rfl
  rw [show (7 : Int) = ((7 : Nat) : Int) from rfl, cut_pre h (by decide)]
  decide +kernel
theorem word_7 (t : Dt) : cutS (pairD "word" t).shown none (some 7) = "['word'" := by
  have h : (pairD "word" t).shown.cps.toList = [91, 39, 119, 111, 114, 100, 39] ++ 44 :: 32 :: (t.d.shown.cps.toList ++ [93]) := by
    rw [pairD_shown, pair_list, word_s]
    rfl
  rw [show (7 : Int) = ((7 : Nat) : Int) from rfl, cut_pre h (by decide)]
  decide +kernel
theorem blend_len {w : Nat} {s : Int} {k f : Nat} (nm : Nm w s k f) : (tBlend w s k f).length ≤ sizeLine := by
  obtain ⟨b1, b2, b3, b4⟩ := numBits nm
  have d1 := KBL.num_len b1
  have d2 := KBL.num_len b2
  have d3 := KBL.num_len b3
  have d4 := KBL.num_len b4
  have sl2 : 10000 ≤ sizeLine := by decide
  have c0 : Str.empty.length = 0 := rfl
  have c1 : (Str.ofString "Blend(").length = 6 := by decide +kernel
  have c2 : (Str.ofString ", ").length = 2 := by decide +kernel
  have c3 : (Str.ofString ")").length = 1 := by decide +kernel
  have c4 : (Str.ofString "[").length = 1 := by decide +kernel
  have c5 : (Str.ofString "]").length = 1 := by decide +kernel
  have c6 : (Str.ofString (if 0 > 0 then ", " else "")).length = 0 := by decide +kernel
  have c7 : (Str.ofString (if 0 + 1 > 0 then ", " else "")).length = 2 := by decide +kernel
  have c8 : (reprText "told").length = 6 := by decide +kernel
  simp only [tBlend, listText, textFrom, KBL.bText, Str.length_append]
  omega
end K05


namespace K05
open PySem L2 KB KO KY
/-! ### a made blend can be moved -/
theorem movOk {w : Nat} {s s' : Int} {m : Nat} (lo : 0 - (w : Int) ≤ s') (hi : s' ≤ w) : MovOk w (KBL.shiftN w s m) s' (KBL.keepN w s m) := by
  refine ⟨lo, hi, fun z => ?_⟩
  obtain ⟨p, hp⟩ := Nat.exists_testBit_of_ne_zero z
  rw [KBL.bit_sh (KBL.keep_lt w s m)] at hp
  simp only [Bool.and_eq_true, decide_eq_true_eq] at hp
  obtain ⟨h1, h2, h3⟩ := hp
  rw [KBL.bit_keep] at h3
  obtain ⟨g1, g2, g3⟩ := KBL.src_of h3
  have hk : KBL.keepN w s m ≠ 0 := fun y => by
    have e := KBL.bit_keep w s m ((p : Int) - s').toNat
    rw [y, h3, Nat.zero_testBit] at e
    cases e
  unfold KBL.shiftN
  rw [if_neg hk]
  omega

structure HeardC (K : PySem.W.Frag) (mg : Str → Option Value) : Prop where
  ex : ∃ (g : Addr) (oc kV doc pm cdg ct : Value) (od an : Option Addr) (osl : Array (Option Value)), mg "_law_heard" = some (.ref g) ∧ PySem.W.keepIn K (.ref g) = true ∧
    K.lookup g = some ⟨oc, od, .func (PySem.W.fnOf "_law_heard" "_law_heard" (defArgs s__law_heard) (defBody s__law_heard) (defScope s__law_heard) .none kV doc pm an cdg ct), osl⟩ ∧ PySem.W.codeIn K cdg "_law_heard" = true ∧
    L2.Binds K (PySem.W.fnOf "_law_heard" "_law_heard" (defArgs s__law_heard) (defBody s__law_heard) (defScope s__law_heard) .none kV doc pm an cdg ct) ["_law_ask"] []
theorem od_ext {H H' : Hp} {v : V} {t : Dt} (h : OdAt H v t) (e : LamX.ExtN H H') : OdAt H' v t := by
  cases t with
  | sc s => exact h
  | tup l => obtain ⟨a, z, g⟩ := h; exact ⟨a, z, e _ _ g (fun ps z => by cases z)⟩
  | lst l => obtain ⟨a, z, g⟩ := h; exact ⟨a, z, e _ _ g (fun ps z => by cases z)⟩
  | dct l => obtain ⟨a, z, g⟩ := h; exact ⟨a, z, e _ _ g (fun ps z => by cases z)⟩
theorem ext_same {H H' : Hp} (s : Same H H') : LamX.ExtN H H' := .of s
theorem BlendAt.ext {C : Addr} {H H' : Hp} {p : Addr} {w : Nat} {s : Int} {k f : Nat} (h : BlendAt C H p w s k f) (e : LamX.ExtN H H') : BlendAt C H' p w s k f := by
  obtain ⟨n, dx, g⟩ := h
  exact ⟨n, dx, e _ _ g (fun ps z => by cases z)⟩
theorem tabs_mut {T : List (Addr × Str)} {H : Hp} {l : Addr} {xs ys : List V} (t : LamX.Tabs T H) (h : H l = some (.lst xs)) : LamX.Tabs T (upd H l (.lst ys)) := KL.tabs_to t fun b o e n => by
  rw [upd_ne (fun z => n xs (by rw [z, h] at e; exact (Option.some.inj e).symm))]
  exact e
/-! ### what is heard -/
structure HW (w : Nat) (t : Dt) (z : Str) : Prop where
  yes : isWord w t = true → cutS z none (some 7) = "['told'"
  no : isWord w t = false → z = (pairD "word" t).shown
  sz : z.length ≤ sizeLine
structure HS (w : Nat) (t : Dt) (z : Str) : Prop where
  yes : isStep w t = true → cutS z none (some 14) = "['told', Blend"
  no : isStep w t = false → z = (pairD "shift" t).shown
  sz : z.length ≤ sizeLine
theorem HW.told {w n : Nat} {z : Str} (h : n < 2 ^ w) (e : cutS z none (some 7) = "['told'") (sz : z.length ≤ sizeLine) : HW w (.sc (.int n)) z := ⟨fun _ => e, (fun y => by rw [isWord_nat h] at y; cases y), sz⟩
theorem HW.word {w : Nat} {t : Dt} (h : isWord w t = false) (f : OkT t) : HW w t (pairD "word" t).shown := ⟨(fun y => by rw [h] at y; cases y), fun _ => rfl, f.fw.sz⟩
theorem HS.told {w n : Nat} {z : Str} (h : n ≤ w) (e : cutS z none (some 14) = "['told', Blend") (sz : z.length ≤ sizeLine) : HS w (.sc (.int n)) z := ⟨fun _ => e, (fun y => by rw [isStep_nat h] at y; cases y), sz⟩
theorem HS.shift {w : Nat} {t : Dt} (h : isStep w t = false) (f : OkT t) : HS w t (pairD "shift" t).shown := ⟨(fun y => by rw [h] at y; cases y), fun _ => rfl, f.fs.sz⟩
section
variable {P : Program} {wd : World} {K : PySem.W.Frag} {CB C : Addr} {c : Nat → Addr} {H1 : Hp} {σ : L2.St} {Q : VK}
theorem told_blend {x : Addr} {w : Nat} {s : Int} {k f : Nat} (B : BlendAt C H1 x w s k f) (q : ∀ H2, Same H1 H2 → Q (.str (tBlend w s k f)) H2) :
    ([V.str "told", .ref x] : List V).length ≤ sizeLine ∧ ∀ p, H1 p = none → (rReprT [.ref p] (upd H1 p (.lst [.str "told", .ref x])) Q ∨ KP.rReprL P wd C (spBRepr C) [.ref p] (upd H1 p (.lst [.str "told", .ref x])) Q) := by
  refine ⟨sz_lit (by simp), fun p np => .inr ⟨p, _, [reprText "told", KBL.bText w s k f], rfl, upd_same, by simp, rfl, blend_len B.1, fun i v t e1 e2 => ?_, fun H2 s2 => q H2 ((same_new np).trans s2)⟩⟩
  match i, e1, e2 with
  | 0, e1, e2 =>
    cases e1
    cases e2
    exact .inl fun u r => by
      obtain ⟨tk, rfl⟩ := (show ∃ tk, u = Value.str "told" tk from r)
      exact ReprIs.str _ _ (Nat.le_trans (show _ ≤ 6 by decide +kernel) (by decide))
  | 1, e1, e2 =>
    cases e1
    cases e2
    obtain ⟨nm, dx, h⟩ := id B
    exact .inr ⟨x, dx, _, rfl, upd_new np h, fun H' s Q' q' => ⟨x, w, _, k, f, rfl, (B.up (same_new np)).up s, q'⟩⟩
theorem told_int {n : Nat} (hn : n < 4294967297) (q : ∀ H2, Same H1 H2 → Q (.str (pairD "told" (.sc (.int n))).shown) H2) :
    ([V.str "told", .int n] : List V).length ≤ sizeLine ∧ ∀ p, H1 p = none → (rReprT [.ref p] (upd H1 p (.lst [.str "told", .int n])) Q ∨ KP.rReprL P wd C (spBRepr C) [.ref p] (upd H1 p (.lst [.str "told", .int n])) Q) :=
  ⟨sz_lit (by simp), fun p np => .inl ⟨p, "told", .int n, .sc (.int n), rfl, upd_same, rfl, KD.fit_int (by decide +kernel) (bits32 (by omega) (by omega)), q _ (same_new np)⟩⟩
/-! ### the lambdas -/
def lamB (C cR : Addr) (gk gf : Nat → Nat → Nat → Nat) : XK → TE := fun E => tOp (KR.rBinD C (spBin C cR gk gf) E) (tVar 0) (tVar 1)
def lamQ (C cR : Addr) (gk gf : Nat → Nat → Nat → Nat) : XK → TE := fun E => tOp (KR.rBinR C (spBin C cR gk gf) E) (tVar 1) (tVar 0)
abbrev lam1 (C cR : Addr) : XK → TE := lamB C cR kAnd fAnd
abbrev lam2 (C cR : Addr) : XK → TE := lamB C cR kOr fOr
abbrev lam3 (C cR : Addr) : XK → TE := lamB C cR kXor fXor
def lam4 (C cR : Addr) : XK → TE := fun E => KC.tCallO C (spBCall C cR) E (tVar 0) (tCons (tVar 1) tNil)
def lam5 (K : PySem.W.Frag) (C cW cR : Addr) : XK → TE := fun E => ClX.tCMeth C (spConst C cW cR) E (tC (.ref C)) (tCons (tFld K (tVar 0) "width") (tCons (tVar 1) tNil))
abbrev lam6 (C cR : Addr) : XK → TE := lamQ C cR kAnd fAnd
abbrev lam7 (C cR : Addr) : XK → TE := lamQ C cR kOr fOr
abbrev lam8 (C cR : Addr) : XK → TE := lamQ C cR kXor fXor
def lam9 (C cS : Addr) : XK → TE := fun E => tOp (KR.rBinD C (spShl C cS) E) (tVar 0) (tVar 1)
def lam10 (C cS : Addr) : XK → TE := fun E => tOp (KR.rBinD C (spShr C cS) E) (tVar 0) (tVar 1)
theorem echo_word {i : Nat} {d : Addr} {v : V} {t : Dt} {H' : Hp} (EA : ErrAt K CB c i) (hd : H' d = some (.xd [("value", v)])) (o : OdAt H' v t) (f : Fit (errName i) t) (q : ∀ H2, Same H' H2 → Q (.str (pairD (errName i) t).shown) H2) : echo K CB c Q (.ref (c i)) (some d) H' :=
  ⟨i, d, v, t, EA, rfl, rfl, hd, o, f, q⟩
variable {p : Addr} {w : Nat} {s : Int} {k f : Nat} {v : V} {t : Dt}
theorem spbin_heard {gk gf : Nat → Nat → Nat → Nat} (EA : ErrAt K CB c 2) (B : BlendAt C H1 p w s k f) (o : OdAt H1 v t) (ok : OkT t) (q : ∀ z H2, Same H1 H2 → HW w t z → Q (.str z) H2) :
    spBin C (c 2) gk gf [.ref p, v] H1 (fun v H1 => ([V.str "told", v] : List V).length ≤ sizeLine ∧ ∀ p, H1 p = none → (rReprT [.ref p] (upd H1 p (.lst [.str "told", v])) Q ∨ KP.rReprL P wd C (spBRepr C) [.ref p] (upd H1 p (.lst [.str "told", v])) Q)) (echo K CB c Q) := by
  refine ⟨p, w, s, k, f, v, t, rfl, B, o, fun n hn e H' x M sm => ?_, fun y d H' sm hd => echo_word EA hd (o.same sm) ok.fw fun H2 s2 => q _ H2 (sm.trans s2) (.word y ok)⟩
  subst e
  exact told_blend M fun H2 s2 => q _ H2 (sm.trans s2) (.told hn (blend_7 ..) (blend_len M.1))
theorem heard_bin {gk gf : Nat → Nat → Nat → Nat} (EA : ErrAt K CB c 2) (h0 : σ[0]? = some (some (.ref p))) (h1 : σ[1]? = some (some v)) (B : BlendAt C H1 p w s k f) (o : OdAt H1 v t) (ok : OkT t) (q : ∀ z H2, Same H1 H2 → HW w t z → Q (.str z) H2) :
    TH P wd K CB c C (fun E H' Q' => lamB C (c 2) gk gf E σ H' Q') H1 Q := by
  obtain ⟨nm, dx, h⟩ := id B
  exact ⟨_, h0, _, h1, p, dx, _, t, rfl, h, o, spbin_heard EA B o ok q⟩
theorem heard_binR {gk gf : Nat → Nat → Nat → Nat} (EA : ErrAt K CB c 2) (h0 : σ[0]? = some (some (.ref p))) (h1 : σ[1]? = some (some v)) (B : BlendAt C H1 p w s k f) (o : OdAt H1 v t) (ok : OkT t) (q : ∀ z H2, Same H1 H2 → HW w t z → Q (.str z) H2) :
    TH P wd K CB c C (fun E H' Q' => lamQ C (c 2) gk gf E σ H' Q') H1 Q := by
  obtain ⟨nm, dx, h⟩ := id B
  exact ⟨_, h1, _, h0, p, dx, _, t, rfl, h, o, spbin_heard EA B o ok q⟩
theorem heard_call (EA : ErrAt K CB c 2) (h0 : σ[0]? = some (some (.ref p))) (h1 : σ[1]? = some (some v)) (B : BlendAt C H1 p w s k f) (o : OdAt H1 v t) (ok : OkT t) (q : ∀ z H2, Same H1 H2 → HW w t z → Q (.str z) H2) :
    TH P wd K CB c C (fun E H' Q' => lam4 C (c 2) E σ H' Q') H1 Q := by
  obtain ⟨nm, dx, h⟩ := id B
  refine ⟨_, h0, p, dx, _, rfl, h, _, h1, h, p, w, s, k, f, v, t, rfl, B, o, fun n hn e => ?_, fun y d H' sm hd => echo_word EA hd (o.same sm) ok.fw fun H2 s2 => q _ H2 (sm.trans s2) (.word y ok)⟩
  subst e
  have wp := nm.w3.pow
  have lt : f ^^^ (k &&& KBL.shN w n s) < 2 ^ w := Nat.xor_lt_two_pow nm.fl (Nat.and_lt_two_pow _ (KBL.sh_lt hn))
  have fit : Fit "told" (.sc (.int ((f ^^^ (k &&& KBL.shN w n s) : Nat) : Int))) := KD.fit_int (by decide +kernel) (bits32 (by omega) (by omega))
  exact told_int (by omega) fun H2 s2 => q _ H2 s2 (.told hn (told_7 _) fit.sz)
theorem heard_const (EA : ErrAt K CB c 2) (cl : Cls K C) (nw : NoAttr K C "width") (h0 : σ[0]? = some (some (.ref p))) (h1 : σ[1]? = some (some v)) (B : BlendAt C H1 p w s k f) (o : OdAt H1 v t) (ok : OkT t) (q : ∀ z H2, Same H1 H2 → HW w t z → Q (.str z) H2) :
    TH P wd K CB c C (fun E H' Q' => lam5 K C (c 0) (c 2) E σ H' Q') H1 Q := by
  obtain ⟨nm, dx, h⟩ := id B
  refine ⟨rfl, ⟨_, h0, p, C, dx, _, _, rfl, h, cl, nw, rfl, _, h1, .int w, v, .sc (.int w), t, rfl, rfl, o, fun z => (by rw [isW_nat nm.w3] at z; cases z), fun w' e w3 y d H' sm hd => ?_, fun w' n e1 e2 w3 hn H' x M sm => ?_⟩⟩
  · obtain rfl : w = w' := by cases e; rfl
    exact echo_word EA hd (o.same sm) ok.fw fun H2 s2 => q _ H2 (sm.trans s2) (.word y ok)
  · obtain rfl : w = w' := by cases e1; rfl
    subst e2
    exact told_blend M fun H2 s2 => q _ H2 (sm.trans s2) (.told hn (blend_7 ..) (blend_len M.1))
theorem heard_shl {s0 : Int} {m : Nat} (EA : ErrAt K CB c 3) (h0 : σ[0]? = some (some (.ref p))) (h1 : σ[1]? = some (some v)) (B : MadeAt C H1 p w s0 m f) (o : OdAt H1 v t) (ok : OkT t) (q : ∀ z H2, Same H1 H2 → HS w t z → Q (.str z) H2) :
    TH P wd K CB c C (fun E H' Q' => lam9 C (c 3) E σ H' Q') H1 Q := by
  obtain ⟨nm, dx, h⟩ := id B
  refine ⟨_, h0, _, h1, p, dx, _, t, rfl, h, o, p, w, _, _, f, v, t, rfl, B, o, fun n hn e => ⟨movOk (by omega) (by omega), fun H' x M sm => ?_⟩, fun y d H' sm hd => echo_word EA hd (o.same sm) ok.fs fun H2 s2 => q _ H2 (sm.trans s2) (.shift y ok)⟩
  subst e
  exact told_blend M fun H2 s2 => q _ H2 (sm.trans s2) (.told hn (blend_14 ..) (blend_len M.1))
theorem heard_shr {s0 : Int} {m : Nat} (EA : ErrAt K CB c 3) (h0 : σ[0]? = some (some (.ref p))) (h1 : σ[1]? = some (some v)) (B : MadeAt C H1 p w s0 m f) (o : OdAt H1 v t) (ok : OkT t) (q : ∀ z H2, Same H1 H2 → HS w t z → Q (.str z) H2) :
    TH P wd K CB c C (fun E H' Q' => lam10 C (c 3) E σ H' Q') H1 Q := by
  obtain ⟨nm, dx, h⟩ := id B
  refine ⟨_, h0, _, h1, p, dx, _, t, rfl, h, o, p, w, _, _, f, v, t, rfl, B, o, fun n hn e => ⟨movOk (by omega) (by omega), fun H' x M sm => ?_⟩, fun y d H' sm hd => echo_word EA hd (o.same sm) ok.fs fun H2 s2 => q _ H2 (sm.trans s2) (.shift y ok)⟩
  subst e
  exact told_blend M fun H2 s2 => q _ H2 (sm.trans s2) (.told hn (blend_14 ..) (blend_len M.1))
/-- one more that is heard -/
theorem app_heard {lam : XK → TE} {T : List (Addr × Str)} {H0 H : Hp} {l : Addr} {zs : List Str} {D : Ends} {G : Str → Prop} (nl : ∀ b o, H0 b = some o → (∀ ps, o ≠ .tbl ps) → b ≠ l) (ex : LamX.ExtN H0 H) (tb : LamX.Tabs T H) (hl : H l = some (.lst (zs.map V.str))) (hz : zs.length < 100) (h3 : σ[3]? = some (some (.ref l)))
    (hd : ∀ H1, LamX.ExtN H0 H1 → ∀ Q' : VK, (∀ z H2, Same H1 H2 → G z → Q' (.str z) H2) → TH P wd K CB c C (fun E H' Q' => lam E σ H' Q') H1 Q')
    (q : ∀ z H', G z → LamX.ExtN H0 H' → LamX.Tabs T H' → H' l = some (.lst ((zs ++ [z]).map V.str)) → D.nx σ H') :
    tDrop (tBM K "list" rAppend (tVar 3) (tCons (LamX.tLam T (TH P wd K CB c C) lam) tNil)) D σ H := by
  refine ⟨_, h3, .inl ⟨rfl, _, SqL.of hl⟩, tb, fun H2 e2 t2 => hd H2 (ex.trans e2) _ fun z H3 s3 g => ?_⟩
  have h3' := s3 _ _ (e2 _ _ hl (fun ps z => by cases z))
  refine ⟨l, _, .str z, rfl, rfl, h3', small1000' (by rw [List.length_map]; omega), ?_⟩
  have e3 := (ex.trans e2).trans (ext_same s3)
  refine q z _ g (fun b o e n => ?_) (tabs_mut (KL.tabs_same t2 s3) h3') ?_
  · rw [upd_ne (nl b o e n)]
    exact e3 b o e n
  · rw [upd_same, List.map_append]
    rfl
end
end K05


namespace K05
open PySem L2 KB KO KY
abbrev TT3 (PO PM PL : Addr) : List (Addr × Str) := [(PO, qO), (PM, qM), (PL, qL)]
structure Apart (PO PM PL : Addr) : Prop where
  om : PO ≠ PM
  ol : PO ≠ PL
  ml : PM ≠ PL
theorem uniqO {PO PM PL : Addr} (h : Apart PO PM PL) : ∀ p ∈ TT3 PO PM PL, p.1 = PO → p.2 = qO := fun p hp e => by
  simp only [TT3, List.mem_cons, List.not_mem_nil, or_false] at hp
  rcases hp with rfl | rfl | rfl
  · rfl
  · exact absurd e.symm h.om
  · exact absurd e.symm h.ol
theorem uniqM {PO PM PL : Addr} (h : Apart PO PM PL) : ∀ p ∈ TT3 PO PM PL, p.1 = PM → p.2 = qM := fun p hp e => by
  simp only [TT3, List.mem_cons, List.not_mem_nil, or_false] at hp
  rcases hp with rfl | rfl | rfl
  · exact absurd e h.om
  · rfl
  · exact absurd e.symm h.ml
theorem uniqL {PO PM PL : Addr} (h : Apart PO PM PL) : ∀ p ∈ TT3 PO PM PL, p.1 = PL → p.2 = qL := fun p hp e => by
  simp only [TT3, List.mem_cons, List.not_mem_nil, or_false] at hp
  rcases hp with rfl | rfl | rfl
  · exact absurd e h.ol
  · exact absurd e h.ml
  · rfl
def spOps (C : Addr) (T : List (Addr × Str)) : Sp := fun vs H Q _ => ∃ (p : Addr) (w : Nat) (s0 : Int) (m f : Nat) (v : V) (t : Dt), vs = [.ref p, v] ∧ MadeAt C H p w s0 m f ∧ OdAt H v t ∧ OkT t ∧ LamX.Tabs T H ∧ ∀ H', LamX.ExtN H H' → LamX.Tabs T H' → Q (.bl true) H'
theorem r_wdictF {σ : L2.St} {H : Hp} {Q : VK} {a b c : Int} {tk : TE} {w : Nat} (w3 : W3 w) (hk : ∀ (H' : Hp) (Q' : VK), Same H H' → Q' (.int w) H' → tk σ H' Q') (q : ∀ H', Same H H' → Q (.int (pickW w a b c)) H') :
    ∀ p, H p = none → tPairs [(tC (.int 8), tC (.int a)), (tC (.int 16), tC (.int b)), (tC (.int 32), tC (.int c))] σ (upd H p (.dK [])) fun ps H2 => H2 p = some (.dK []) ∧ ∃ kvs : List (Key × V), ps = kvs.map (fun kv => (kV kv.1, kv.2)) ∧ kvs.length ≤ 15 ∧
      tk σ (upd H2 p (.dK (mergeK [] kvs))) fun y H2 => ∃ a v, V.ref p = .ref a ∧ DGet H2 a y (some v) ∧ Q v H2 := by
  intro p np
  refine ⟨upd_same, [(.inl 8, .int a), (.inl 16, .int b), (.inl 32, .int c)], rfl, by simp, hk _ _ (same_mut (same_new np) np) ⟨p, _, rfl, ?_, q _ ?_⟩⟩
  · exact wdict_val w3 a b c ▸ DGet.k (k := .inl (w : Int)) upd_same
  · exact same_mut (same_new np) np
theorem isWord_int (w : Nat) (i : Int) : isWord w (.sc (.int i)) = decide (0 ≤ i ∧ i < ((2 ^ w : Nat) : Int)) := rfl
theorem isStep_int (w : Nat) (i : Int) : isStep w (.sc (.int i)) = decide (0 ≤ i ∧ i ≤ (w : Int)) := rfl

section
variable {P : Program} {wd : World} {K : PySem.W.Frag} {mg : Str → Option Value} {base : Heap}
theorem ok_ops {f CB C aW cL PO PM PL : Addr} {c : Nat → Addr} {oc kV dc pm ct : Value} {od an : Option Addr} {sl : Array (Option Value)} (look : K.lookup f = some ⟨oc, od, .func (PySem.W.fnOf "_law_operations_right" "_law_operations_right" (defArgs s__law_operations_right) (defBody s__law_operations_right) (defScope s__law_operations_right) .none kV dc pm an (.ref cL) ct), sl⟩) (code : PySem.W.codeIn K (.ref cL) "_law_operations_right" = true)
    (T : TxtB K mg C aW) (TE : TxtE K mg CB c) (EA2 : ErrAt K CB c 2) (EA3 : ErrAt K CB c 3) (HC : HeardC K mg) (ap : Apart PO PM PL) (TB : LamX.TabB base mg cL PO) (rp : OwnM P wd K mg base 1 C "__repr__" ["self"] (spBRepr C))
    (c__law_whole : KB.Callee P wd K mg base CX0 1 "_law_whole" ["_law_thing"] spWhole)
    (bd_Blend_and : KR.OwnBD P wd K mg base (L2.CX P wd) 8 C .BitAnd ["self", "other"] (spBin C (c 2) kAnd fAnd)) (bd_Blend_or : KR.OwnBD P wd K mg base (L2.CX P wd) 8 C .BitOr ["self", "other"] (spBin C (c 2) kOr fOr)) (bd_Blend_xor : KR.OwnBD P wd K mg base (L2.CX P wd) 8 C .BitXor ["self", "other"] (spBin C (c 2) kXor fXor))
    (br_Blend_and : KR.OwnBR P wd K mg base (L2.CX P wd) 8 C .BitAnd ["self", "other"] (spBin C (c 2) kAnd fAnd)) (br_Blend_or : KR.OwnBR P wd K mg base (L2.CX P wd) 8 C .BitOr ["self", "other"] (spBin C (c 2) kOr fOr)) (br_Blend_xor : KR.OwnBR P wd K mg base (L2.CX P wd) 8 C .BitXor ["self", "other"] (spBin C (c 2) kXor fXor))
    (bd_Blend_shl : KR.OwnBD P wd K mg base (L2.CX P wd) 9 C .LShift ["self", "other"] (spShl C (c 3))) (bd_Blend_shr : KR.OwnBD P wd K mg base (L2.CX P wd) 9 C .RShift ["self", "other"] (spShr C (c 3)))
    (call_Blend : KC.OwnC P wd K mg base (L2.CX P wd) 6 C ["self", "value"] (spBCall C (c 2))) (cm_Blend_constant : KP.CalleeC P wd K mg base (L2.CX P wd) 8 C "constant" (spConst C (c 0) (c 2))) :
    KG.FnG P wd K mg base CX0 12 f (PySem.W.fnOf "_law_operations_right" "_law_operations_right" (defArgs s__law_operations_right) (defBody s__law_operations_right) (defScope s__law_operations_right) .none kV dc pm an (.ref cL) ct) ["_law_blend", "_law_thing"] (spOps C (TT3 PO PM PL)) := by
  refine KG.fnG_body look code sc__law_operations_right (fun vs H Q E h => ?_) (fun A outer s H vs Q E hr fr h => ?_)
  · obtain ⟨p, w, s0, m, f, v, t, rfl, _⟩ := h
    rfl
  · obtain ⟨p, w, s0, m, ff, v, t, rfl, B, o, ok, tb, q⟩ := h
    obtain ⟨g, oc, kV, doc, pm, cdg, ct, od, an, osl, hmg, hkp, hlk, hcg, hbd⟩ := HC.ex
    have uO := uniqO ap
    have cl := T.cl
    have nw := T.n_width
    obtain ⟨nm, dx, hB⟩ := id B
    have BB : BlendAt C H p w (KBL.shiftN w s0 m) (KBL.keepN w s0 m) ff := B
    have w3 := nm.w3
    have wl := w3.le
    obtain ⟨t', drv, rdg⟩ : ∃ t', PSs (cxOf CX0 P wd K mg base ["_law_blend", "_law_thing", "_law_fits", "_law_heard_here", "_law_one", "_law_is_step"] "_law_operations_right" (defScope s__law_operations_right) f (.ref cL) A outer s H E).nox (defBody s__law_operations_right) t' ∧ t' { nx := fun _ H' => Q .non H', rt := Q } (start ["_law_blend", "_law_thing", "_law_fits", "_law_heard_here", "_law_one", "_law_is_step"] [.ref p, v]) H := by
      refine ⟨_, (Evl.pss_cut (ps_set (i := 2) sc__law_operations_right.nd rfl (by first | exact Or.inl rfl | exact Or.inr rfl) (pe_and (pe_callC c__law_whole (hr.mono (by decide)) (by rfl) pass0 (pa_cons (pv 1) pa_nil)) (pe_one (pe_chain op_le op_le pe_int (pv 1) (pe_dget (hu_of hr) (pe_disp (pps_cons pe_int pe_int (pps_cons pe_int pe_int (pps_cons pe_int pe_int pps_nil))) (by rfl) (by rfl) (fun z => by cases z) (by decide)) (pe_fld (pv 0) rfl) (fun _ _ => rfl))))))
 (pss_cons (ps_set (i := 3) sc__law_operations_right.nd rfl (by first | exact Or.inl rfl | exact Or.inr rfl) (pe_lst (pa_cons (LamX.pe_lamcall (T := TT3 PO PM PL) (TT := TH P wd K CB c C) (k := 9) (t := lam1 C (c 2)) (by rfl) hmg hkp hlk hcg hbd sc__law_heard rfl (Or.inl rfl) (heard_gives TE rp fr (hr.mono (by decide))) TB rfl (List.mem_cons_self ..) uO (hr.mono (by decide)) (LamX.lamS_by (sc := defScope s__law_operations_right) (by decide +kernel)) rfl (fun _ _ _ _ _ => rfl) (fun A1 o1 s1 H1 E1 f1 c1 hr1 => (pe_op (KR.op_binD bd_Blend_and (hr1.mono (by decide)) KL.lam_pass) (pv 0) (pv 1)))) pa_nil)))
 (pss_cons (ps_expr (pe_bm PySem.F.plainAttrs_list PySem.F.slot_list_append PySem.F.type_list_append mt_append (pv 3) (pa_cons (LamX.pe_lamcall (T := TT3 PO PM PL) (TT := TH P wd K CB c C) (k := 9) (t := lam2 C (c 2)) (by rfl) hmg hkp hlk hcg hbd sc__law_heard rfl (Or.inl rfl) (heard_gives TE rp fr (hr.mono (by decide))) TB rfl (List.mem_cons_self ..) uO (hr.mono (by decide)) (LamX.lamS_by (sc := defScope s__law_operations_right) (by decide +kernel)) rfl (fun _ _ _ _ _ => rfl) (fun A1 o1 s1 H1 E1 f1 c1 hr1 => (pe_op (KR.op_binD bd_Blend_or (hr1.mono (by decide)) KL.lam_pass) (pv 0) (pv 1)))) pa_nil)))
 (pss_cons (ps_expr (pe_bm PySem.F.plainAttrs_list PySem.F.slot_list_append PySem.F.type_list_append mt_append (pv 3) (pa_cons (LamX.pe_lamcall (T := TT3 PO PM PL) (TT := TH P wd K CB c C) (k := 9) (t := lam3 C (c 2)) (by rfl) hmg hkp hlk hcg hbd sc__law_heard rfl (Or.inl rfl) (heard_gives TE rp fr (hr.mono (by decide))) TB rfl (List.mem_cons_self ..) uO (hr.mono (by decide)) (LamX.lamS_by (sc := defScope s__law_operations_right) (by decide +kernel)) rfl (fun _ _ _ _ _ => rfl) (fun A1 o1 s1 H1 E1 f1 c1 hr1 => (pe_op (KR.op_binD bd_Blend_xor (hr1.mono (by decide)) KL.lam_pass) (pv 0) (pv 1)))) pa_nil)))
 (pss_cons (ps_expr (pe_bm PySem.F.plainAttrs_list PySem.F.slot_list_append PySem.F.type_list_append mt_append (pv 3) (pa_cons (LamX.pe_lamcall (T := TT3 PO PM PL) (TT := TH P wd K CB c C) (k := 9) (t := lam4 C (c 2)) (by rfl) hmg hkp hlk hcg hbd sc__law_heard rfl (Or.inl rfl) (heard_gives TE rp fr (hr.mono (by decide))) TB rfl (List.mem_cons_self ..) uO (hr.mono (by decide)) (LamX.lamS_by (sc := defScope s__law_operations_right) (by decide +kernel)) rfl (fun _ _ _ _ _ => rfl) (fun A1 o1 s1 H1 E1 f1 c1 hr1 => (KC.pe_callO call_Blend (hr1.mono (by decide)) KL.lam_pass (pv 0) (pa_cons (pv 1) pa_nil)))) pa_nil)))
 (pss_cons (ps_expr (pe_bm PySem.F.plainAttrs_list PySem.F.slot_list_append PySem.F.type_list_append mt_append (pv 3) (pa_cons (LamX.pe_lamcall (T := TT3 PO PM PL) (TT := TH P wd K CB c C) (k := 9) (t := lam5 K C (c 0) (c 2)) (by rfl) hmg hkp hlk hcg hbd sc__law_heard rfl (Or.inl rfl) (heard_gives TE rp fr (hr.mono (by decide))) TB rfl (List.mem_cons_self ..) uO (hr.mono (by decide)) (LamX.lamS_by (sc := defScope s__law_operations_right) (by decide +kernel)) rfl (fun _ _ _ _ _ => rfl) (fun A1 o1 s1 H1 E1 f1 c1 hr1 => (KP.pe_cmethC cm_Blend_constant (pe_glob (v := .ref _) (by rfl) T.mg_Blend rfl) (hr1.mono (by decide)) KL.lam_pass (pa_cons (pe_fld (pv 0) rfl) (pa_cons (pv 1) pa_nil))))) pa_nil)))
 (pss_cons (ps_expr (pe_bm PySem.F.plainAttrs_list PySem.F.slot_list_append PySem.F.type_list_append mt_append (pv 3) (pa_cons (LamX.pe_lamcall (T := TT3 PO PM PL) (TT := TH P wd K CB c C) (k := 9) (t := lam6 C (c 2)) (by rfl) hmg hkp hlk hcg hbd sc__law_heard rfl (Or.inl rfl) (heard_gives TE rp fr (hr.mono (by decide))) TB rfl (List.mem_cons_self ..) uO (hr.mono (by decide)) (LamX.lamS_by (sc := defScope s__law_operations_right) (by decide +kernel)) rfl (fun _ _ _ _ _ => rfl) (fun A1 o1 s1 H1 E1 f1 c1 hr1 => (pe_op (KR.op_binR br_Blend_and (hr1.mono (by decide)) KL.lam_pass) (pv 1) (pv 0)))) pa_nil)))
 (pss_cons (ps_expr (pe_bm PySem.F.plainAttrs_list PySem.F.slot_list_append PySem.F.type_list_append mt_append (pv 3) (pa_cons (LamX.pe_lamcall (T := TT3 PO PM PL) (TT := TH P wd K CB c C) (k := 9) (t := lam7 C (c 2)) (by rfl) hmg hkp hlk hcg hbd sc__law_heard rfl (Or.inl rfl) (heard_gives TE rp fr (hr.mono (by decide))) TB rfl (List.mem_cons_self ..) uO (hr.mono (by decide)) (LamX.lamS_by (sc := defScope s__law_operations_right) (by decide +kernel)) rfl (fun _ _ _ _ _ => rfl) (fun A1 o1 s1 H1 E1 f1 c1 hr1 => (pe_op (KR.op_binR br_Blend_or (hr1.mono (by decide)) KL.lam_pass) (pv 1) (pv 0)))) pa_nil)))
 (pss_cons (ps_expr (pe_bm PySem.F.plainAttrs_list PySem.F.slot_list_append PySem.F.type_list_append mt_append (pv 3) (pa_cons (LamX.pe_lamcall (T := TT3 PO PM PL) (TT := TH P wd K CB c C) (k := 9) (t := lam8 C (c 2)) (by rfl) hmg hkp hlk hcg hbd sc__law_heard rfl (Or.inl rfl) (heard_gives TE rp fr (hr.mono (by decide))) TB rfl (List.mem_cons_self ..) uO (hr.mono (by decide)) (LamX.lamS_by (sc := defScope s__law_operations_right) (by decide +kernel)) rfl (fun _ _ _ _ _ => rfl) (fun A1 o1 s1 H1 E1 f1 c1 hr1 => (pe_op (KR.op_binR br_Blend_xor (hr1.mono (by decide)) KL.lam_pass) (pv 1) (pv 0)))) pa_nil)))
 (pss_cons (ps_if (pt_cmpR (op_neD hr.units) (pe_lc (own := [("_law_one", 4)]) (g := gName 4) (by rfl) sc__law_operations_right.nd (pi_list (pv 3)) (blkOk_by (own := [("_law_one", 4)]) (N := ["_law_blend", "_law_thing", "_law_fits", "_law_heard_here", "_law_one", "_law_is_step"]) (sc := defScope s__law_operations_right) (by decide +kernel)) (fun _ _ _ _ _ => (pg_name (i := 4) sc__law_operations_right.nd rfl (by first | exact Or.inl rfl | exact Or.inr rfl))) (fun _ _ _ _ _ => (pts_one (pt_cmpR op_ne (pe_cmpR op_eq (pe_slice sl_str (pv 4) po_none (po_some pe_int)) pe_str (nomark _)) (pv 2) (nomark _)))) (fun _ _ _ _ _ => pe_int)) (pe_lst pa_nil) (nomark _)) (pss_one (ps_ret pe_bl))
 pss_nil)
 (Evl.pss_cut (ps_if (PW.pt (pw_and (pt_not (pt_val (pv 2))) (pw_and1 (pt_cmpR (op_neD hr.units) (pv 3) (pe_op op_rep (pe_lst (pa_cons (pe_callB (KY.call_reprT fr hr) (by rfl) T.z_repr (by decide +kernel) (pa_cons (pe_lst (pa_cons pe_str (pa_cons (pv 1) pa_nil))) pa_nil)) pa_nil)) (pe_callB call_len_seq (by rfl) T.z_len (by decide +kernel) (pa_cons (pv 3) pa_nil))) (nomark _))))) (pss_one (ps_ret pe_bl))
 pss_nil)
 (Evl.pss_cut (ps_set (i := 5) sc__law_operations_right.nd rfl (by first | exact Or.inl rfl | exact Or.inr rfl) (pe_and (pe_callC c__law_whole (hr.mono (by decide)) (by rfl) pass0 (pa_cons (pv 1) pa_nil)) (pe_one (pe_chain op_le op_le pe_int (pv 1) (pe_fld (pv 0) rfl)))))
 (pss_cons (ps_set (i := 3) sc__law_operations_right.nd rfl (by first | exact Or.inl rfl | exact Or.inr rfl) (pe_lst (pa_cons (LamX.pe_lamcall (T := TT3 PO PM PL) (TT := TH P wd K CB c C) (k := 9) (t := lam9 C (c 3)) (by rfl) hmg hkp hlk hcg hbd sc__law_heard rfl (Or.inl rfl) (heard_gives TE rp fr (hr.mono (by decide))) TB rfl (List.mem_cons_self ..) uO (hr.mono (by decide)) (LamX.lamS_by (sc := defScope s__law_operations_right) (by decide +kernel)) rfl (fun _ _ _ _ _ => rfl) (fun A1 o1 s1 H1 E1 f1 c1 hr1 => (pe_op (KR.op_binD bd_Blend_shl (hr1.mono (by decide)) KL.lam_pass) (pv 0) (pv 1)))) pa_nil)))
 (pss_cons (ps_expr (pe_bm PySem.F.plainAttrs_list PySem.F.slot_list_append PySem.F.type_list_append mt_append (pv 3) (pa_cons (LamX.pe_lamcall (T := TT3 PO PM PL) (TT := TH P wd K CB c C) (k := 9) (t := lam10 C (c 3)) (by rfl) hmg hkp hlk hcg hbd sc__law_heard rfl (Or.inl rfl) (heard_gives TE rp fr (hr.mono (by decide))) TB rfl (List.mem_cons_self ..) uO (hr.mono (by decide)) (LamX.lamS_by (sc := defScope s__law_operations_right) (by decide +kernel)) rfl (fun _ _ _ _ _ => rfl) (fun A1 o1 s1 H1 E1 f1 c1 hr1 => (pe_op (KR.op_binD bd_Blend_shr (hr1.mono (by decide)) KL.lam_pass) (pv 0) (pv 1)))) pa_nil)))
 (pss_cons (ps_if (pt_val (pv 5)) (pss_one (ps_ret (pe_cmpR (op_eqD hr.units) (pe_lc (own := [("_law_one", 4)]) (g := gName 4) (tt := tYes) (by rfl) sc__law_operations_right.nd (pi_list (pv 3)) (blkOk_by (own := [("_law_one", 4)]) (N := ["_law_blend", "_law_thing", "_law_fits", "_law_heard_here", "_law_one", "_law_is_step"]) (sc := defScope s__law_operations_right) (by decide +kernel)) (fun _ _ _ _ _ => (pg_name (i := 4) sc__law_operations_right.nd rfl (by first | exact Or.inl rfl | exact Or.inr rfl))) (fun _ _ _ _ _ => pts_nil) (fun _ _ _ _ _ => (pe_slice sl_str (pv 4) po_none (po_some pe_int)))) (pe_op op_rep (pe_lst (pa_cons pe_str pa_nil)) pe_int) (nomark _))))
 pss_nil)
 (pss_one (ps_ret (pe_cmpR (op_eqD hr.units) (pv 3) (pe_op op_rep (pe_lst (pa_cons (pe_callB (KY.call_reprT fr hr) (by rfl) T.z_repr (by decide +kernel) (pa_cons (pe_lst (pa_cons pe_str (pa_cons (pv 1) pa_nil))) pa_nil)) pa_nil)) pe_int) (nomark _))))))))))))))))))), at_start (σ := [some (.ref p), some v, none, none, none, none]) rfl ?_⟩
      try dsimp only [cx_K]
      refine ⟨fun σ' H' => σ' = [some (.ref p), some v, some (.bl (isWord w t)), none, none, none] ∧ Same H H', ?_, ?_⟩
      · walk_at "rd"
        refine ⟨v, t, rfl, o, ?_⟩
        walk_at "rd"
        refine r_iteB (fun h => ?_) (fun h => ?_)
        · obtain ⟨i, rfl⟩ := isIntD_of h
          obtain rfl : v = .int i := o
          refine KC.r_chain ?_
          walk_at "rd"
          refine r_ite2 (fun lo => ?_) (fun lo => ?_)
          · walk_at "rd"
            refine r_wdictF w3 (fun H' Q' s' z => ⟨_, rfl, p, C, dx, _, _, rfl, s' _ _ hB, cl, nw, rfl, z⟩) fun H2 s2 => ?_
            rw [top_is w3]
            refine r_I0 ⟨?_, s2⟩
            have e : decide (i ≤ ((KBL.onesN w : Nat) : Int)) = isWord w (.sc (.int i)) := by
              rw [isWord_int]
              have h1 : KBL.onesN w < 2 ^ w := KBL.ones_lt w
              have h2 : KBL.onesN w + 1 = 2 ^ w := by unfold KBL.onesN; have := Nat.two_pow_pos w; omega
              by_cases z : i ≤ ((KBL.onesN w : Nat) : Int)
              · rw [decide_eq_true z, decide_eq_true ⟨lo, by omega⟩]
              · rw [decide_eq_false z, decide_eq_false (fun y => z (by omega))]
            rw [e]
            rfl
          · refine ⟨?_, Same.refl _⟩
            rw [isWord_int, decide_eq_false (fun z => lo z.1)]
            rfl
        · refine ⟨?_, Same.refl _⟩
          rw [(noInt_noW h).2.1]
          rfl
      rintro σ' H1 ⟨rfl, s1⟩
      walk_at "rd"
      refine ⟨KL.tabs_same tb s1, fun H2 e2 t2 => ?_⟩
      have ex2 := (ext_same s1).trans e2
      refine heard_bin EA2 rfl rfl (BlendAt.ext BB ex2) (od_ext o ex2) ok fun z1 H3 s3 g1 => ?_
      walk_at "rd"
      refine ⟨by walk_at "sz", fun l nl => ?_⟩
      have nl0 : ∀ b ob, H b = some ob → (∀ ps, ob ≠ .tbl ps) → b ≠ l := fun b ob e n => ne_of_none (s3 _ _ (ex2 b ob e n)) nl
      have ex4 := ex2.trans (ext_same (s3.trans (same_new (o := .lst [.str z1]) nl)))
      have tb4 := KL.tabs_same t2 (s3.trans (same_new (o := .lst [.str z1]) nl))
      have hl4 : upd H3 l (.lst [.str z1]) l = some (.lst (([z1] : List Str).map V.str)) := upd_same
      generalize upd H3 l (.lst [.str z1]) = H4 at ex4 tb4 hl4 ⊢
      clear ex2 s3 nl t2 e2 s1 tb
      dsimp only [List.set]
      with_reducible refine r_seq ?_
      refine app_heard (σ := [some (.ref p), some v, some (.bl (isWord w t)), some (.ref l), none, none]) nl0 ex4 tb4 hl4 (by simp) rfl (fun Ha ea Q' q' => heard_bin EA2 rfl rfl (BlendAt.ext BB ea) (od_ext o ea) ok q') fun z2 H5 g2 ex5 tb5 hl5 => ?_
      clear ex4 tb4 hl4
      dsimp only [List.set]
      with_reducible refine r_seq ?_
      refine app_heard (σ := [some (.ref p), some v, some (.bl (isWord w t)), some (.ref l), none, none]) nl0 ex5 tb5 hl5 (by simp) rfl (fun Ha ea Q' q' => heard_bin EA2 rfl rfl (BlendAt.ext BB ea) (od_ext o ea) ok q') fun z3 H6 g3 ex6 tb6 hl6 => ?_
      clear ex5 tb5 hl5
      dsimp only [List.set]
      with_reducible refine r_seq ?_
      refine app_heard (σ := [some (.ref p), some v, some (.bl (isWord w t)), some (.ref l), none, none]) nl0 ex6 tb6 hl6 (by simp) rfl (fun Ha ea Q' q' => heard_call EA2 rfl rfl (BlendAt.ext BB ea) (od_ext o ea) ok q') fun z4 H7 g4 ex7 tb7 hl7 => ?_
      clear ex6 tb6 hl6
      dsimp only [List.set]
      with_reducible refine r_seq ?_
      refine app_heard (σ := [some (.ref p), some v, some (.bl (isWord w t)), some (.ref l), none, none]) nl0 ex7 tb7 hl7 (by simp) rfl (fun Ha ea Q' q' => heard_const EA2 cl nw rfl rfl (BlendAt.ext BB ea) (od_ext o ea) ok q') fun z5 H8 g5 ex8 tb8 hl8 => ?_
      clear ex7 tb7 hl7
      dsimp only [List.set]
      with_reducible refine r_seq ?_
      refine app_heard (σ := [some (.ref p), some v, some (.bl (isWord w t)), some (.ref l), none, none]) nl0 ex8 tb8 hl8 (by simp) rfl (fun Ha ea Q' q' => heard_binR EA2 rfl rfl (BlendAt.ext BB ea) (od_ext o ea) ok q') fun z6 H9 g6 ex9 tb9 hl9 => ?_
      clear ex8 tb8 hl8
      dsimp only [List.set]
      with_reducible refine r_seq ?_
      refine app_heard (σ := [some (.ref p), some v, some (.bl (isWord w t)), some (.ref l), none, none]) nl0 ex9 tb9 hl9 (by simp) rfl (fun Ha ea Q' q' => heard_binR EA2 rfl rfl (BlendAt.ext BB ea) (od_ext o ea) ok q') fun z7 H10 g7 ex10 tb10 hl10 => ?_
      clear ex9 tb9 hl9
      dsimp only [List.set]
      with_reducible refine r_seq ?_
      refine app_heard (σ := [some (.ref p), some v, some (.bl (isWord w t)), some (.ref l), none, none]) nl0 ex10 tb10 hl10 (by simp) rfl (fun Ha ea Q' q' => heard_binR EA2 rfl rfl (BlendAt.ext BB ea) (od_ext o ea) ok q') fun z8 H11 g8 ex11 tb11 hl11 => ?_
      clear ex10 tb10 hl10
      have gs : ∀ z ∈ ([z1] ++ [z2] ++ [z3] ++ [z4] ++ [z5] ++ [z6] ++ [z7] ++ [z8] : List Str), HW w t z := fun z m => by
        simp only [List.cons_append, List.nil_append, List.mem_cons, List.not_mem_nil, or_false] at m
        rcases m with rfl | rfl | rfl | rfl | rfl | rfl | rfl | rfl <;> assumption
      have ln : ([z1] ++ [z2] ++ [z3] ++ [z4] ++ [z5] ++ [z6] ++ [z7] ++ [z8] : List Str).length = 8 := rfl
      generalize ([z1] ++ [z2] ++ [z3] ++ [z4] ++ [z5] ++ [z6] ++ [z7] ++ [z8] : List Str) = zs at gs ln hl11
      clear g1 g2 g3 g4 g5 g6 g7 g8
      walk_at "rd"
      refine ⟨l, rfl, ⟨_, SqL.of hl11⟩, ?_⟩
      refine KD.lc_none (walk_list (xs := zs.map V.str)) (fun H' s => SqL.of (s _ _ hl11)) (fun i x Ha Ha' B' N hi sa y qB => ?_) (fun D Hb nD sb eD => ?_)
      · obtain ⟨rfl, y⟩ := y
        rw [List.getElem?_map] at y
        obtain ⟨z, hz, rfl⟩ := Option.map_eq_some_iff.mp y
        have gz := gs z (List.mem_of_getElem? hz)
        walk_at "rd"
        refine ⟨rfl, ?_⟩
        walk_at "rd"
        refine KS.r_sls gz.sz ?_
        walk_at "rd"
        have e7 : decide (V.str (cutS z none (some 7)) = V.str "['told'") = isWord w t := by
          rw [decS]
          cases y : isWord w t with
          | true => exact decide_eq_true (gz.yes y)
          | false => rw [gz.no y, word_7]; decide +kernel
        refine r_iteNF (by rw [e7]) ?_
        exact qB _ (Same.refl _)
      walk_at "rd"
      refine ⟨by walk_at "sz", fun c2 n2 => ?_⟩
      refine r_neInts (ns := []) (ms := []) (SqL.of (upd_new n2 eD)) (SqL.of upd_same) ?_
      walk_at "rd"
      refine r_iteNF rfl ?_
      walk_at "rd"
      have sc := sb.trans (same_new (o := .lst []) n2)
      have ex12 := ex11.trans (ext_same sc)
      have tb12 := KL.tabs_same tb11 sc
      have hl12 := sc _ _ hl11
      generalize upd Hb c2 (.lst []) = H12 at ex12 tb12 hl12 ⊢
      clear ex11 tb11 hl11 sc sb eD nD n2
      refine ⟨fun σ' H' => σ' = [some (.ref p), some v, some (.bl (isWord w t)), some (.ref l), none, none] ∧ LamX.ExtN H H' ∧ LamX.Tabs (TT3 PO PM PL) H', ?_, ?_⟩
      · walk_at "rd"
        refine r_iteBN (fun hw => ?_) (fun hw => ?_)
        · walk_at "rd"
          refine ⟨by walk_at "sz", fun c1 n1 => ?_⟩
          walk_at "rd"
          have s1 := same_new (o := .lst [.str "word", v]) n1
          refine ⟨c1, "word", v, t, rfl, upd_same, (od_ext o ex12).same s1, ok.fw, ?_⟩
          walk_at "rd"
          refine ⟨by walk_at "sz", fun c2 n2 => ?_⟩
          walk_at "rd"
          have s2 := s1.trans (same_new (o := .lst [.str (pairD "word" t).shown]) n2)
          rw [List.length_map, ln]
          refine ⟨c2, 8, _, rfl, rfl, upd_same, by decide, by decide, by walk_at "sz", fun c3 n3 => ?_⟩
          rw [show (8 : Int) = ((8 : Nat) : Int) from rfl, KS.rep_map]
          have s3 := s2.trans (same_new (o := .lst ((List.replicate 8 (pairD "word" t).shown).map V.str)) n3)
          have ez : zs = List.replicate 8 (pairD "word" t).shown := by rw [← ln]; exact KS.all_rep fun y m => (gs y m).no hw
          have okz : ∀ z ∈ List.replicate 8 (pairD "word" t).shown, PyData.strOk z = true := fun z m => by rw [List.eq_of_mem_replicate m]; exact ok.tw
          refine KS.r_neStrs (ns := zs) (SqL.of (s3 _ _ hl12)) (SqL.of upd_same) (by rw [ez]; exact okz) okz ?_
          walk_at "rd"
          refine r_iteNF ez ?_
          walk_at "rd"
          exact ⟨rfl, ex12.trans (ext_same s3), KL.tabs_same tb12 s3⟩
        · walk_at "rd"
          exact ⟨rfl, ex12, tb12⟩
      rintro σ' H13 ⟨rfl, ex13, tb13⟩
      clear ex12 tb12 hl12 gs ln
      refine ⟨fun σ' H' => σ' = [some (.ref p), some v, some (.bl (isWord w t)), some (.ref l), none, some (.bl (isStep w t))] ∧ LamX.ExtN H H' ∧ LamX.Tabs (TT3 PO PM PL) H', ?_, ?_⟩
      · walk_at "rd"
        have hB' := ex13 _ _ hB (fun ps z => by cases z)
        refine ⟨v, t, rfl, od_ext o ex13, ?_⟩
        walk_at "rd"
        refine r_iteB (fun h => ?_) (fun h => ?_)
        · obtain ⟨i, rfl⟩ := isIntD_of h
          obtain rfl : v = .int i := o
          refine KC.r_chain ?_
          walk_at "rd"
          refine r_ite2 (fun lo => ?_) (fun lo => ?_)
          · walk_at "rd"
            refine ⟨?_, ex13, tb13⟩
            have e : decide (i ≤ (w : Int)) = isStep w (.sc (.int i)) := by
              rw [isStep_int]
              by_cases z : i ≤ (w : Int)
              · rw [decide_eq_true z, decide_eq_true ⟨lo, z⟩]
              · rw [decide_eq_false z, decide_eq_false (fun y => z y.2)]
            rw [e]
            rfl
          · refine ⟨?_, ex13, tb13⟩
            rw [isStep_int, decide_eq_false (fun z => lo z.1)]
            rfl
        · refine ⟨?_, ex13, tb13⟩
          rw [noInt_noStep h]
          rfl
      rintro σ' H14 ⟨rfl, ex14, tb14⟩
      clear ex13 tb13
      walk_at "rd"
      refine ⟨tb14, fun H2 e2 t2 => ?_⟩
      have ex2 := ex14.trans e2
      refine heard_shl EA3 rfl rfl (show MadeAt C H2 p w s0 m ff from BlendAt.ext BB ex2) (od_ext o ex2) ok fun z1 H3 s3 g1 => ?_
      walk_at "rd"
      refine ⟨by walk_at "sz", fun l2 nl => ?_⟩
      have nl0 : ∀ b ob, H b = some ob → (∀ ps, ob ≠ .tbl ps) → b ≠ l2 := fun b ob e n => ne_of_none (s3 _ _ (ex2 b ob e n)) nl
      have ex4 := ex2.trans (ext_same (s3.trans (same_new (o := .lst [.str z1]) nl)))
      have tb4 := KL.tabs_same t2 (s3.trans (same_new (o := .lst [.str z1]) nl))
      have hl4 : upd H3 l2 (.lst [.str z1]) l2 = some (.lst (([z1] : List Str).map V.str)) := upd_same
      generalize upd H3 l2 (.lst [.str z1]) = H4 at ex4 tb4 hl4 ⊢
      clear ex2 s3 nl t2 e2 ex14 tb14
      dsimp only [List.set]
      with_reducible refine r_seq ?_
      refine app_heard (σ := [some (.ref p), some v, some (.bl (isWord w t)), some (.ref l2), none, some (.bl (isStep w t))]) nl0 ex4 tb4 hl4 (by simp) rfl (fun Ha ea Q' q' => heard_shr EA3 rfl rfl (show MadeAt C Ha p w s0 m ff from BlendAt.ext BB ea) (od_ext o ea) ok q') fun z2 H5 g2 ex5 tb5 hl5 => ?_
      clear ex4 tb4 hl4
      dsimp only [List.cons_append, List.nil_append] at hl5
      walk_at "rd"
      refine r_iteB (fun hs => ?_) (fun hs => ?_)
      · walk_at "rd"
        refine ⟨l2, rfl, ⟨_, SqL.of hl5⟩, ?_⟩
        refine KD.lc_made (walk_list (xs := [.str z1, .str z2])) (fun i v _ => v = .str "['told', Blend") (by simp) (fun i v H H' r _ => r) (fun H' s => SqL.of (s _ _ hl5)) (fun i x Ha Ha' N B' hi sa y qN => ?_) (fun D Hb ys nD sb eD ly rs => ?_)
        · obtain ⟨rfl, y⟩ := y
          obtain ⟨z, rfl, gz⟩ : ∃ z, x = .str z ∧ HS w t z := by
            match i, hi, y with
            | 0, _, y => cases y; exact ⟨_, rfl, g1⟩
            | 1, _, y => cases y; exact ⟨_, rfl, g2⟩
          walk_at "rd"
          refine ⟨rfl, KD.r_yes (iteT ?_)⟩
          walk_at "rd"
          refine KS.r_sls gz.sz ?_
          exact qN _ _ (Same.refl _) (by rw [gz.yes hs])
        · have ey : ys = (List.replicate 2 ("['told', Blend" : Str)).map V.str := by
            match ys, ly, rs with
            | [a, b], _, rs => rw [rs 0 a rfl, rs 1 b rfl]; rfl
          rw [ey] at eD
          walk_at "rd"
          refine ⟨by walk_at "sz", fun c1 n1 => ?_⟩
          walk_at "rd"
          refine ⟨c1, 2, _, rfl, rfl, upd_same, by decide, by decide, by walk_at "sz", fun c2 n2 => ?_⟩
          rw [show (2 : Int) = ((2 : Nat) : Int) from rfl, KS.rep_map]
          have s2 := (same_new (o := .lst [.str "['told', Blend"]) n1).trans (same_new (o := .lst ((List.replicate 2 ("['told', Blend" : Str)).map V.str)) n2)
          have okz : ∀ z ∈ List.replicate 2 ("['told', Blend" : Str), PyData.strOk z = true := fun z m => by rw [List.eq_of_mem_replicate m]; decide +kernel
          refine KS.r_eqStrs (SqL.of (s2 _ _ eD)) (SqL.of upd_same) okz okz ?_
          rw [decide_eq_true rfl]
          exact q _ ((ex5.trans (ext_same sb)).trans (ext_same s2)) (KL.tabs_same (KL.tabs_same tb5 sb) s2)
      · walk_at "rd"
        refine ⟨by walk_at "sz", fun c1 n1 => ?_⟩
        walk_at "rd"
        have s1 := same_new (o := .lst [.str "shift", v]) n1
        refine ⟨c1, "shift", v, t, rfl, upd_same, (od_ext o ex5).same s1, ok.fs, ?_⟩
        walk_at "rd"
        refine ⟨by walk_at "sz", fun c2 n2 => ?_⟩
        walk_at "rd"
        have s2 := s1.trans (same_new (o := .lst [.str (pairD "shift" t).shown]) n2)
        refine ⟨c2, 2, _, rfl, rfl, upd_same, by decide, by decide, by walk_at "sz", fun c3 n3 => ?_⟩
        rw [show (2 : Int) = ((2 : Nat) : Int) from rfl, KS.rep_map]
        have s3 := s2.trans (same_new (o := .lst ((List.replicate 2 (pairD "shift" t).shown).map V.str)) n3)
        have okz : ∀ z ∈ List.replicate 2 (pairD "shift" t).shown, PyData.strOk z = true := fun z m => by rw [List.eq_of_mem_replicate m]; exact ok.ts
        rw [g1.no hs, g2.no hs] at hl5
        refine KS.r_eqStrs (ns := List.replicate 2 (pairD "shift" t).shown) (SqL.of (s3 _ _ hl5)) (SqL.of upd_same) okz okz ?_
        rw [decide_eq_true rfl]
        exact q _ (ex5.trans (ext_same s3)) (KL.tabs_same tb5 s3)
    exact ⟨t', drv.nox, rdg⟩
end
end K05


namespace K05
open PySem L2 KB KO KY
/-- the refusal that is due, or the empty text -/
def due (w : Nat) (t1 t2 t3 t4 : Dt) : Str := if isW t1 = false then (pairD "width" t1).shown else if isShift w t2 = false then (pairD "shift" t2).shown else if isNoneD t3 = false ∧ isWord w t3 = false then (pairD "word" t3).shown else if isWord w t4 = false then (pairD "word" t4).shown else ""
structure Nums (W : Nat) (v1 v2 v3 v4 : V) (t1 t2 t3 t4 : Dt) (H : Hp) : Prop where
  o1 : OdAt H v1 t1
  o2 : OdAt H v2 t2
  o3 : OdAt H v3 t3
  o4 : OdAt H v4 t4
  k1 : OkT t1
  k2 : OkT t2
  k3 : OkT t3
  k4 : OkT t4
  w3 : W3 W
  same : ∀ w : Nat, t1 = .sc (.int w) → W3 w → w = W
theorem Nums.ext {W : Nat} {v1 v2 v3 v4 : V} {t1 t2 t3 t4 : Dt} {H H' : Hp} (n : Nums W v1 v2 v3 v4 t1 t2 t3 t4 H) (e : LamX.ExtN H H') : Nums W v1 v2 v3 v4 t1 t2 t3 t4 H' :=
  ⟨od_ext n.o1 e, od_ext n.o2 e, od_ext n.o3 e, od_ext n.o4 e, n.k1, n.k2, n.k3, n.k4, n.w3, n.same⟩
def spDue : Sp := fun vs H Q _ => ∃ (a : Addr) (W : Nat) (v1 v2 v3 v4 : V) (t1 t2 t3 t4 : Dt), vs = [.ref a, .int W] ∧ H a = some (.tup [v1, v2, v3, v4]) ∧ Nums W v1 v2 v3 v4 t1 t2 t3 t4 H ∧ ∀ H', Same H H' → Q (.str (due W t1 t2 t3 t4)) H'
def within (lo hi : Int) : Dt → Bool
  | .sc (.int i) => decide (lo ≤ i ∧ i ≤ hi)
  | _ => false
theorem within_word (w : Nat) (t : Dt) : isWord w t = within 0 ((KBL.onesN w : Nat) : Int) t := by
  have h2 : KBL.onesN w + 1 = 2 ^ w := by unfold KBL.onesN; have := Nat.two_pow_pos w; omega
  cases t with
  | sc s => cases s with
    | int i =>
      show decide _ = decide _
      by_cases z : 0 ≤ i ∧ i ≤ ((KBL.onesN w : Nat) : Int)
      · rw [decide_eq_true z, decide_eq_true (by omega)]
      · rw [decide_eq_false z, decide_eq_false (by omega)]
    | _ => rfl
  | _ => rfl
theorem within_shift (w : Nat) (t : Dt) : isShift w t = within (0 - (w : Int)) w t := by
  cases t with
  | sc s => cases s <;> rfl
  | _ => rfl
theorem noInt_within {t : Dt} {lo hi : Int} (h : isIntD t = false) : within lo hi t = false := by
  cases t with
  | sc s => cases s <;> first | rfl | cases h
  | _ => rfl
/-- not whole(x) or not lo <= x <= hi -/
theorem t_out {σ : L2.St} {H : Hp} {QT : Bool → Hp → Prop} {i : Nat} {v : V} {t : Dt} {lo hi : Int} {ta tc : TE} (hi' : σ[i]? = some (some v)) (o : OdAt H v t) (ha : ∀ Q' : VK, Q' (.int lo) H → ta σ H Q') (hc : ∀ Q' : VK, Q' (.int hi) H → tc σ H Q') (q : QT (!within lo hi t) H) :
    tOr (tNot (tB (tCall spWhole [] C8.E0 (tCons (tVar i) tNil)))) (tNot (tTest (tChain (rI0 fun i j => V.bl (decide (i ≤ j))) (rI0 fun i j => V.bl (decide (i ≤ j))) ta (tVar i) tc))) σ H QT := by
  refine ⟨v, hi', v, t, rfl, o, isIntD t, rfl, ?_⟩
  refine r_iteBN (fun z => ?_) (fun z => ?_)
  · rw [noInt_within z] at q
    exact q
  · obtain ⟨n, rfl⟩ := isIntD_of z
    obtain rfl : v = .int n := o
    refine ha _ ⟨.int n, hi', lo, n, rfl, rfl, _, rfl, ?_⟩
    refine r_ite2 (fun y => ?_) (fun y => ?_)
    · refine hc _ ⟨n, hi, rfl, rfl, _, rfl, ?_⟩
      have e : within lo hi (.sc (.int n)) = decide (n ≤ hi) := by
        show decide _ = decide _
        by_cases x : n ≤ hi
        · rw [decide_eq_true x, decide_eq_true ⟨y, x⟩]
        · rw [decide_eq_false x, decide_eq_false (fun u => x u.2)]
      rw [← e]
      exact q
    · refine ⟨false, rfl, ?_⟩
      have e : within lo hi (.sc (.int n)) = false := decide_eq_false (fun u => y u.1)
      rw [e] at q
      exact q

section
variable {P : Program} {wd : World} {K : PySem.W.Frag} {mg : Str → Option Value} {base : Heap}
theorem ok_due {f : Addr} {fd : FuncData} (F : Fun K "_law_due" "_law_due" s__law_due f fd) (T : Txt mg) (c__law_whole : KB.Callee P wd K mg base CX0 1 "_law_whole" ["_law_thing"] spWhole) : KG.FnG P wd K mg base CX0 3 f fd ["_law_numbers", "_law_marks"] spDue := by
  refine KG.fun_okG F sc__law_due (fun vs H Q E h => ?_) (fun cdv A outer s H vs Q E hr fr h => ?_)
  · obtain ⟨a, W, v1, v2, v3, v4, t1, t2, t3, t4, rfl, _⟩ := h
    rfl
  · obtain ⟨a, W, v1, v2, v3, v4, t1, t2, t3, t4, rfl, ha, N, q⟩ := h
    refine ⟨_, (pss_cons (ps_asg (pv 0) (pg_tup rfl (pgs_cons (pg_name (i := 2) sc__law_due.nd rfl (by first | exact Or.inl rfl | exact Or.inr rfl)) (pgs_cons (pg_name (i := 3) sc__law_due.nd rfl (by first | exact Or.inl rfl | exact Or.inr rfl)) (pgs_cons (pg_name (i := 4) sc__law_due.nd rfl (by first | exact Or.inl rfl | exact Or.inr rfl)) (pgs_cons (pg_name (i := 5) sc__law_due.nd rfl (by first | exact Or.inl rfl | exact Or.inr rfl)) pgs_nil))))))
 (pss_cons (ps_set (i := 6) sc__law_due.nd rfl (by first | exact Or.inl rfl | exact Or.inr rfl) (pe_dget (hu_of hr) (pe_disp (pps_cons pe_int pe_int (pps_cons pe_int pe_int (pps_cons pe_int pe_int pps_nil))) (by rfl) (by rfl) (fun z => by cases z) (by decide)) (pv 1) (fun _ _ => rfl)))
 (pss_cons (ps_if (PW.pt (pw_or (pt_not (pt_val (pe_callC c__law_whole (hr.mono (by decide)) (by rfl) pass0 (pa_cons (pv 2) pa_nil)))) (pw_or1 (pt_cmpR op_notIn_seq (pv 2) (pe_tup (pa_cons pe_int (pa_cons pe_int (pa_cons pe_int pa_nil)))) (by rfl))))) (pss_one (ps_ret (pe_callB (KY.call_reprT fr hr) (by rfl) T.z_repr (by decide +kernel) (pa_cons (pe_lst (pa_cons pe_str (pa_cons (pv 2) pa_nil))) pa_nil))))
 pss_nil)
 (pss_cons (ps_if (PW.pt (pw_or (pt_not (pt_val (pe_callC c__law_whole (hr.mono (by decide)) (by rfl) pass0 (pa_cons (pv 3) pa_nil)))) (pw_or1 (pt_not (pt_chain op_le op_le (pe_op op_sub pe_int (pv 2)) (pv 3) (pv 2)))))) (pss_one (ps_ret (pe_callB (KY.call_reprT fr hr) (by rfl) T.z_repr (by decide +kernel) (pa_cons (pe_lst (pa_cons pe_str (pa_cons (pv 3) pa_nil))) pa_nil))))
 pss_nil)
 (pss_cons (ps_if (PW.pt (pw_and (pt_cmpR op_notN (pv 4) pe_non (nomark _)) (pw_and1 (PW.pt (pw_or (pt_not (pt_val (pe_callC c__law_whole (hr.mono (by decide)) (by rfl) pass0 (pa_cons (pv 4) pa_nil)))) (pw_or1 (pt_not (pt_chain op_le op_le pe_int (pv 4) (pv 6))))))))) (pss_one (ps_ret (pe_callB (KY.call_reprT fr hr) (by rfl) T.z_repr (by decide +kernel) (pa_cons (pe_lst (pa_cons pe_str (pa_cons (pv 4) pa_nil))) pa_nil))))
 pss_nil)
 (pss_cons (ps_if (PW.pt (pw_or (pt_not (pt_val (pe_callC c__law_whole (hr.mono (by decide)) (by rfl) pass0 (pa_cons (pv 5) pa_nil)))) (pw_or1 (pt_not (pt_chain op_le op_le pe_int (pv 5) (pv 6)))))) (pss_one (ps_ret (pe_callB (KY.call_reprT fr hr) (by rfl) T.z_repr (by decide +kernel) (pa_cons (pe_lst (pa_cons pe_str (pa_cons (pv 5) pa_nil))) pa_nil))))
 pss_nil)
 (pss_one (ps_ret pe_str)))))))), at_start (σ := [some (.ref a), some (.int W), none, none, none, none, none]) rfl ?_⟩
    try dsimp only [cx_K]
    walk_at "rd"
    refine r_wdict N.w3 (mono_var1 rfl) fun H1 s1 => ?_
    rw [top_is N.w3]
    replace N := N.ext (ext_same s1)
    have h2 : KBL.onesN W + 1 = 2 ^ W := by unfold KBL.onesN; have := Nat.two_pow_pos W; omega
    walk_at "rd"
    refine ⟨v1, t1, rfl, N.o1, ?_⟩
    walk_at "rd"
    have fin1 : isW t1 = false → ∀ H', Same H1 H' → Q (.str (pairD "width" t1).shown) H' := fun z H' s' => by
      have y := q H' (s1.trans s')
      unfold due at y
      rwa [if_pos z] at y
    refine r_iteBN (fun z => ?_) (fun z => ?_)
    · walk_at "rd"
      refine ⟨by walk_at "sz", fun c n => ?_⟩
      walk_at "rd"
      exact ⟨c, "width", v1, t1, rfl, upd_same, N.o1.same (same_new n), N.k1.fd, fin1 (noInt_noW z).1 _ (same_new n)⟩
    obtain ⟨i, rfl⟩ := isIntD_of z
    obtain rfl : v1 = .int i := N.o1
    walk_at "rd"
    refine ⟨by walk_at "sz", fun c0 n0 => ?_⟩
    walk_at "rd"
    refine r_notInI (zs := [8, 16, 32]) (.inr (SqT.of upd_same)) ?_
    walk_at "rd"
    have s2 := same_new (o := .tup [.int 8, .int 16, .int 32]) n0
    refine r_iteN2 (fun h => ?_) (fun h => ?_)
    · walk_at "rd"
      refine ⟨by walk_at "sz", fun c n => ?_⟩
      walk_at "rd"
      exact ⟨c, "width", .int i, .sc (.int i), rfl, upd_same, rfl, N.k1.fd, fin1 (decide_eq_false (fun y => h (by simpa using y))) _ (s2.trans (same_new n))⟩
    clear fin1
    have hw : isW (.sc (.int i)) = true := decide_eq_true (by simpa using h)
    obtain ⟨w, w3, e⟩ := isW_of hw
    obtain rfl := N.same w e w3
    obtain rfl : i = (w : Int) := by cases e; rfl
    replace q : ∀ H', Same H1 H' → Q (.str (if isShift w t2 = false then (pairD "shift" t2).shown else if isNoneD t3 = false ∧ isWord w t3 = false then (pairD "word" t3).shown else if isWord w t4 = false then (pairD "word" t4).shown else "")) H' := fun H' s' => by
      have y := q H' (s1.trans s')
      unfold due at y
      rwa [if_neg (by rw [hw]; decide)] at y
    replace N := N.ext (ext_same s2)
    replace q := fun H' s' => q H' (s2.trans s')
    generalize upd H1 c0 (.tup [.int 8, .int 16, .int 32]) = H2 at N q ⊢
    clear s1 s2 n0
    refine r_next ?_
    dsimp only [List.set]
    with_reducible refine r_seq (r_ifS ?_)
    refine t_out (lo := 0 - (w : Int)) (hi := (w : Int)) rfl N.o2 (fun Q' q' => ⟨.int w, rfl, r_I0 q'⟩) (fun Q' q' => ⟨.int w, rfl, q'⟩) ?_
    rw [← within_shift]
    refine r_iteBN (fun z => ?_) (fun z => ?_)
    · walk_at "rd"
      refine ⟨by walk_at "sz", fun c n => ?_⟩
      walk_at "rd"
      have y := q _ (same_new (o := .lst [.str "shift", v2]) n)
      rw [if_pos z] at y
      exact ⟨c, "shift", v2, t2, rfl, upd_same, N.o2.same (same_new n), N.k2.fs, y⟩
    replace q : ∀ H', Same H2 H' → Q (.str (if isNoneD t3 = false ∧ isWord w t3 = false then (pairD "word" t3).shown else if isWord w t4 = false then (pairD "word" t4).shown else "")) H' := fun H' s' => by
      have y := q H' s'
      rwa [if_neg (by rw [z]; decide)] at y
    obtain ⟨nn1, nn2⟩ := non_of N.o3
    refine r_next ?_
    dsimp only
    have last : ¬ (isNoneD t3 = false ∧ isWord w t3 = false) → tSeq
                        (tIfS
                          (tOr (tNot (tB (tCall spWhole [] E0 (tCons (tVar 5) tNil))))
                            (tNot
                              (tTest
                                (tChain (rI0 fun i j => V.bl (decide (i ≤ j))) (rI0 fun i j => V.bl (decide (i ≤ j)))
                                  (tC (V.int 0)) (tVar 5) (tVar 6)))))
                          (tRet
                            (tCB rReprT
                              (tCons (tLst (tCons (tC (V.str (Str.ofString "word"))) (tCons (tVar 5) tNil))) tNil)))
                          tNext)
                        (tRet (tC (V.str (Str.ofString "")))) { nx := fun x h' => Q V.non h', rt := Q } [some (.ref a), some (.int w), some (.int w), some v2, some v3, some v4, some (.int ((KBL.onesN w : Nat) : Int))] H2 := by
      intro y0
      with_reducible refine r_seq (r_ifS ?_)
      refine t_out (lo := 0) (hi := ((KBL.onesN w : Nat) : Int)) rfl N.o4 (fun Q' q' => q') (fun Q' q' => ⟨_, rfl, q'⟩) ?_
      rw [← within_word]
      refine r_iteBN (fun z => ?_) (fun z => ?_)
      · walk_at "rd"
        refine ⟨by walk_at "sz", fun c n => ?_⟩
        walk_at "rd"
        have y := q _ (same_new (o := .lst [.str "word", v4]) n)
        rw [if_neg y0, if_pos z] at y
        exact ⟨c, "word", v4, t4, rfl, upd_same, N.o4.same (same_new n), N.k4.fw, y⟩
      · walk_at "rd"
        have y := q _ (Same.refl _)
        rw [if_neg y0, if_neg (by rw [z]; decide)] at y
        exact y
    with_reducible refine r_seq (r_ifS (r_and ?_))
    walk_at "rd"
    refine r_iteN2 (fun hn => ?_) (fun hn => ?_)
    · have hn' : isNoneD t3 = false := by
        cases e : isNoneD t3 with
        | false => rfl
        | true => exact absurd (nn1 e) hn
      refine t_out (lo := 0) (hi := ((KBL.onesN w : Nat) : Int)) rfl N.o3 (fun Q' q' => q') (fun Q' q' => ⟨_, rfl, q'⟩) ?_
      rw [← within_word]
      refine r_iteBN (fun z => ?_) (fun z => ?_)
      · walk_at "rd"
        refine ⟨by walk_at "sz", fun c n => ?_⟩
        walk_at "rd"
        have y := q _ (same_new (o := .lst [.str "word", v3]) n)
        rw [if_pos ⟨hn', z⟩] at y
        exact ⟨c, "word", v3, t3, rfl, upd_same, N.o3.same (same_new n), N.k3.fw, y⟩
      · refine r_next ?_
        exact last (fun y => by rw [z] at y; cases y.2)
    · have hn' : isNoneD t3 = true := by
        cases e : isNoneD t3 with
        | true => rfl
        | false => exact absurd hn (nn2 e)
      refine iteF (r_next ?_)
      exact last (fun y => by rw [hn'] at y; cases y.1)
end
end K05


namespace K05
open PySem L2 KB KO KY
def spMade (T : List (Addr × Str)) : Sp := fun vs H Q _ => ∃ (a : Addr) (W : Nat) (v1 v2 v3 v4 : V) (t1 t2 t3 t4 : Dt), vs = [.int W, .ref a] ∧ H a = some (.tup [v1, v2, v3, v4]) ∧ Nums W v1 v2 v3 v4 t1 t2 t3 t4 H ∧ LamX.Tabs T H ∧ ∀ H', LamX.ExtN H H' → LamX.Tabs T H' → Q (.bl true) H'
def lamM (K : PySem.W.Frag) (C cW cS cR : Addr) : XK → TE := fun E => tMake C (spBlend C cW cS cR) [] E (tCons (tOp (rIxT K) (tVar 1) (tC (.int 0))) (tCons (tOp (rIxT K) (tVar 1) (tC (.int 1))) (tCons (tOp (rIxT K) (tVar 1) (tC (.int 2))) (tCons (tOp (rIxT K) (tVar 1) (tC (.int 3))) tNil))))
structure HM (d z : Str) : Prop where
  yes : d = "" → cutS z none (some 14) = "['told', Blend"
  no : d ≠ "" → z = d
  sz : z.length ≤ sizeLine
theorem shown_ne (tag : Str) (t : Dt) : (pairD tag t).shown ≠ "" := fun z => by
  have h := pair_list (reprText tag) t.d.shown
  rw [← pairD_shown, z] at h
  have e : (Str.ofString "").cps.toList = [] := by decide +kernel
  rw [e] at h
  cases h
theorem HM.err {d : Str} {tag : Str} {t : Dt} (f : Fit tag t) (e : d = (pairD tag t).shown) : HM d (pairD tag t).shown := ⟨fun z => absurd (e.symm.trans z) (shown_ne tag t), fun _ => e.symm, f.sz⟩
section
variable {P : Program} {wd : World} {K : PySem.W.Frag} {CB C : Addr} {c : Nat → Addr} {H1 : Hp} {σ : L2.St} {Q : VK}
theorem heard_make {a : Addr} {W : Nat} {v1 v2 v3 v4 : V} {t1 t2 t3 t4 : Dt} (EA0 : ErrAt K CB c 0) (EA2 : ErrAt K CB c 2) (EA3 : ErrAt K CB c 3) (h1 : σ[1]? = some (some (.ref a))) (ha : H1 a = some (.tup [v1, v2, v3, v4])) (N : Nums W v1 v2 v3 v4 t1 t2 t3 t4 H1)
    (q : ∀ z H2, Same H1 H2 → HM (due W t1 t2 t3 t4) z → Q (.str z) H2) : TH P wd K CB c C (fun E H' Q' => lamM K C (c 0) (c 3) (c 2) E σ H' Q') H1 Q := by
  have hq := SqT.of (K := K) ha
  refine ⟨_, h1, a, _, 0, v1, rfl, rfl, hq, rfl, _, h1, a, _, 1, v2, rfl, rfl, hq, rfl, _, h1, a, _, 2, v3, rfl, rfl, hq, rfl, _, h1, a, _, 3, v4, rfl, rfl, hq, rfl, ?_⟩
  intro x dx nx ndx nxd
  have s1 : Same H1 (upd (upd H1 dx (.own x)) x (.ins C dx [])) := fun b ob e => by rw [upd_ne (ne_of_none e nx), upd_ne (ne_of_none e ndx)]; exact e
  have N1 := N.ext (ext_same s1)
  refine ⟨x, dx, v1, v2, v3, v4, t1, t2, t3, t4, rfl, upd_same, N1.o1, N1.o2, N1.o3, N1.o4, fun z d H2 s2 hd => ?_, fun w e w3 z d H2 s2 hd => ?_, fun w e w3 z1 z2 z3 d H2 s2 hd => ?_, fun w e w3 z1 z2 z3 d H2 s2 hd => ?_, fun w sh f e1 e2 e4 z3 nm H2 B kp => ⟨rfl, ?_⟩⟩
  · exact echo_word EA0 hd (N1.o1.same s2) N.k1.fd fun H3 s3 => q _ H3 ((s1.trans s2).trans s3) (.err N.k1.fd (if_pos z))
  · obtain rfl := N.same w e w3
    have y : isW t1 = true := by rw [e]; exact isW_nat w3
    exact echo_word EA3 hd (N1.o2.same s2) N.k2.fs fun H3 s3 => q _ H3 ((s1.trans s2).trans s3) (.err N.k2.fs ((if_neg (by rw [y]; decide)).trans (if_pos z)))
  · obtain rfl := N.same w e w3
    have y : isW t1 = true := by rw [e]; exact isW_nat w3
    exact echo_word EA2 hd (N1.o3.same s2) N.k3.fw fun H3 s3 => q _ H3 ((s1.trans s2).trans s3) (.err N.k3.fw ((if_neg (by rw [y]; decide)).trans ((if_neg (by rw [z1]; decide)).trans (if_pos ⟨z2, z3⟩))))
  · obtain rfl := N.same w e w3
    have y : isW t1 = true := by rw [e]; exact isW_nat w3
    have y3 : ¬ (isNoneD t3 = false ∧ isWord w t3 = false) := fun u => by
      rcases z2 with z2 | z2
      · rw [z2] at u; cases u.1
      · rw [z2] at u; cases u.2
    exact echo_word EA2 hd (N1.o4.same s2) N.k4.fw fun H3 s3 => q _ H3 ((s1.trans s2).trans s3) (.err N.k4.fw ((if_neg (by rw [y]; decide)).trans ((if_neg (by rw [z1]; decide)).trans ((if_neg y3).trans (if_pos z3)))))
  · obtain rfl := N.same w e1 nm.w3
    have y : isW t1 = true := by rw [e1]; exact isW_nat nm.w3
    have y2 : isShift w t2 = true := by rw [e2]; exact decide_eq_true ⟨nm.lo, nm.hi⟩
    have y3 : ¬ (isNoneD t3 = false ∧ isWord w t3 = false) := fun u => by
      rcases z3 with z2 | z2
      · rw [z2] at u; cases u.1
      · rw [z2] at u; cases u.2
    have y4 : isWord w t4 = true := by rw [e4]; exact isWord_nat nm.fl
    have ed : due w t1 t2 t3 t4 = "" := (if_neg (by rw [y]; decide)).trans ((if_neg (by rw [y2]; decide)).trans ((if_neg y3).trans (if_neg (by rw [y4]; decide))))
    have sm : Same H1 H2 := fun b o e => kp b o (s1 b o e) (ne_of_none e nx)
    exact told_blend B fun H3 s3 => q _ H3 (sm.trans s3) ⟨fun _ => blend_14 .., fun u => absurd ed u, blend_len B.1⟩
end

section
variable {P : Program} {wd : World} {K : PySem.W.Frag} {mg : Str → Option Value} {base : Heap}
theorem ok_made {f CB C aW cL PO PM PL : Addr} {c : Nat → Addr} {oc kV dc pm ct : Value} {od an : Option Addr} {sl : Array (Option Value)} (look : K.lookup f = some ⟨oc, od, .func (PySem.W.fnOf "_law_made_right" "_law_made_right" (defArgs s__law_made_right) (defBody s__law_made_right) (defScope s__law_made_right) .none kV dc pm an (.ref cL) ct), sl⟩) (code : PySem.W.codeIn K (.ref cL) "_law_made_right" = true)
    (T : TxtB K mg C aW) (TE : TxtE K mg CB c) (EA0 : ErrAt K CB c 0) (EA2 : ErrAt K CB c 2) (EA3 : ErrAt K CB c 3) (HC : HeardC K mg) (ap : Apart PO PM PL) (TB : LamX.TabB base mg cL PM) (rp : OwnM P wd K mg base 1 C "__repr__" ["self"] (spBRepr C))
    (c__law_due : KG.CalleeG P wd K mg base CX0 3 "_law_due" ["_law_numbers", "_law_marks"] spDue)
    (c_Blend___init__ : CalleeI P wd K mg base (L2.CX P wd) 6 C "Blend" ["self", "width", "shift", "keep", "flip"] (spBlend C (c 0) (c 3) (c 2))) :
    KG.FnG P wd K mg base CX0 12 f (PySem.W.fnOf "_law_made_right" "_law_made_right" (defArgs s__law_made_right) (defBody s__law_made_right) (defScope s__law_made_right) .none kV dc pm an (.ref cL) ct) ["_law_width", "_law_numbers"] (spMade (TT3 PO PM PL)) := by
  refine KG.fnG_body look code sc__law_made_right (fun vs H Q E h => ?_) (fun A outer s H vs Q E hr fr h => ?_)
  · obtain ⟨a, W, v1, v2, v3, v4, t1, t2, t3, t4, rfl, _⟩ := h
    rfl
  · obtain ⟨a, W, v1, v2, v3, v4, t1, t2, t3, t4, rfl, ha, N, tb, q⟩ := h
    obtain ⟨g, oc, kV, doc, pm, cdg, ct, od, an, osl, hmg, hkp, hlk, hcg, hbd⟩ := HC.ex
    have uM := uniqM ap
    obtain ⟨t', drv, rdg⟩ : ∃ t', PSs (cxOf CX0 P wd K mg base ["_law_width", "_law_numbers", "_law_due_here", "_law_heard_here"] "_law_made_right" (defScope s__law_made_right) f (.ref cL) A outer s H E).nox (defBody s__law_made_right) t' ∧ t' { nx := fun _ H' => Q .non H', rt := Q } (start ["_law_width", "_law_numbers", "_law_due_here", "_law_heard_here"] [.int W, .ref a]) H := by
      refine ⟨_, (pss_cons (ps_set (i := 2) sc__law_made_right.nd rfl (by first | exact Or.inl rfl | exact Or.inr rfl) (KG.pe_callG c__law_due fr (hr.mono (by decide)) (by rfl) pass0 (pa_cons (pv 1) (pa_cons (pv 0) pa_nil))))
 (pss_cons (ps_set (i := 3) sc__law_made_right.nd rfl (by first | exact Or.inl rfl | exact Or.inr rfl) (LamX.pe_lamcall (T := TT3 PO PM PL) (TT := TH P wd K CB c C) (k := 9) (t := lamM K C (c 0) (c 3) (c 2)) (by rfl) hmg hkp hlk hcg hbd sc__law_heard rfl (Or.inl rfl) (heard_gives TE rp fr (hr.mono (by decide))) TB rfl (List.mem_cons_of_mem _ (List.mem_cons_self ..)) uM (hr.mono (by decide)) (LamX.lamS_by (sc := defScope s__law_made_right) (by decide +kernel)) rfl (fun _ _ _ _ _ => rfl) (fun A1 o1 s1 H1 E1 f1 c1 hr1 => (pe_makeC c_Blend___init__ (hr1.mono (by decide)) (by rfl) KL.lam_pass (pa_cons (pe_ix ix_tup (pv 1) pe_int (fun _ _ => rfl)) (pa_cons (pe_ix ix_tup (pv 1) pe_int (fun _ _ => rfl)) (pa_cons (pe_ix ix_tup (pv 1) pe_int (fun _ _ => rfl)) (pa_cons (pe_ix ix_tup (pv 1) pe_int (fun _ _ => rfl)) pa_nil))))))))
 (pss_one (ps_ret (pe_ifExp (pt_cmpR op_ne (pv 2) pe_str (nomark _)) (pe_cmpR op_eq (pv 3) (pv 2) (nomark _)) (pe_cmpR op_eq (pe_slice sl_str (pv 3) po_none (po_some pe_int)) pe_str (nomark _))))))), at_start (σ := [some (.int W), some (.ref a), none, none]) rfl ?_⟩
      try dsimp only [cx_K]
      walk_at "rd"
      refine ⟨a, W, v1, v2, v3, v4, t1, t2, t3, t4, rfl, ha, N, fun H1 s1 => ?_⟩
      walk_at "rd"
      refine ⟨KL.tabs_same tb s1, fun H2 e2 t2' => ?_⟩
      have ex := (ext_same s1).trans e2
      refine heard_make EA0 EA2 EA3 rfl (ex _ _ ha (fun ps z => by cases z)) (N.ext ex) fun z H3 s3 g => ?_
      generalize due W t1 t2 t3 t4 = d at g ⊢
      have fin := q H3 (ex.trans (ext_same s3)) (KL.tabs_same t2' s3)
      walk_at "rd"
      refine r_iteN2 (fun h => ?_) (fun h => ?_)
      · walk_at "rd"
        rw [decS, decide_eq_true (g.no (strNe h))]
        exact fin
      · walk_at "rd"
        refine KS.r_sls g.sz ?_
        walk_at "rd"
        rw [decS, decide_eq_true (g.yes (strEq h))]
        exact fin
    exact ⟨t', drv.nox, rdg⟩
end
end K05


namespace K05
open PySem L2 KB KO KY
def spLaw (K : PySem.W.Frag) (cs : List (Addr × Addr)) : Sp := fun vs H Q _ => ∃ (a : Addr) (ns : List Int), vs = [.ref a] ∧ SqL K H a (ns.map V.int) ∧ ns.length ≤ 63 ∧ (∀ p ∈ cs, H p.2 = some (.tbl #[])) ∧ ∀ H', Q (.bl true) H'
theorem pen_ext {H H' : Hp} {p c : Addr} {k : Nat} (h : PenC H p c k) (x : LamX.ExtN H H') : PenC H' p c k := by
  obtain ⟨ns, at_, left, h1, h2, h3, h4, h5⟩ := h
  exact ⟨ns, at_, left, x _ _ h1 (fun ps z => by cases z), x _ _ h2 (fun ps z => by cases z), h3, h4, h5⟩
theorem tabs_keep {T : List (Addr × Str)} {H H' : Hp} {q : Addr} {xs : List V} (t : LamX.Tabs T H) (k : Keep q H H') (hq : H q = some (.lst xs)) : LamX.Tabs T H' :=
  KL.tabs_to t fun b o e n => k b o e (fun z => by rw [z, hq] at e; exact n xs (Option.some.inj e).symm)
theorem OddsAt.ext {pen : Addr} {xs : List V} {H H' : Hp} (h : OddsAt pen xs H) (e : LamX.ExtN H H') : OddsAt pen xs H' := fun v m => by
  obtain ⟨n, t, o, f⟩ := h v m
  exact ⟨n, t, od_ext o e, f⟩
def lamL (K : PySem.W.Frag) (C cW cR : Addr) : XK → TE := fun E => ClX.tCMeth C (spConst C cW cR) E (tC (.ref C)) (tCons (tC (.str "8")) (tCons (tUn (rU fun i => .int (-i)) (tC (.int 1))) tNil))
theorem make_n {C cW cS cR : Addr} {H : Hp} {w : Nat} {s : Int} {f : Nat} {Q : Hp → Prop} {E : XK} {x dx : Addr} (nx : H x = none) (ndx : H dx = none) (w3 : W3 w) (lo : 0 - (w : Int) ≤ s) (hi : s ≤ w) (hf : f < 2 ^ w) (q : ∀ H', MadeAt C H' x w s (KBL.onesN w) f → Same H H' → Q H') :
    spBlend C cW cS cR [.ref x, .int w, .int s, .non, .int f] (upd (upd H dx (.own x)) x (.ins C dx [])) (fun v H3 => v = .non ∧ Q H3) E := by
  have sh : isShift w (.sc (.int s)) = true := decide_eq_true ⟨lo, hi⟩
  refine ⟨x, dx, _, _, _, _, .sc (.int w), .sc (.int s), .sc .non, .sc (.int f), rfl, upd_same, rfl, rfl, rfl, rfl, fun z => ?_, fun w' e w3 z => ?_, fun w' e w3 _ z => ?_, fun w' e w3 _ _ z => ?_, fun w' s' f' e1 e2 e4 _ nm' H' B kp => ⟨rfl, ?_⟩⟩
  · rw [isW_nat w3] at z; cases z
  · cases e; rw [sh] at z; cases z
  · cases z
  · obtain rfl : w = w' := by cases e; rfl
    rw [isWord_nat hf] at z; cases z
  · obtain rfl : w = w' := by cases e1; rfl
    obtain rfl : s = s' := by cases e2; rfl
    obtain rfl : f = f' := by cases e4; rfl
    exact q H' B fun b o e => kp b o (by rw [upd_ne (ne_of_none e nx), upd_ne (ne_of_none e ndx)]; exact e) (ne_of_none e nx)
theorem text_W {i : Int} (h : (Str.ofString (toString i)) ∈ (["8", "16", "32"] : List Str)) : i = 8 ∨ i = 16 ∨ i = 32 := by
  have inj : ∀ j : Int, Str.ofString (toString i) = Str.ofString (toString j) → i = j := fun j e => KBL.dg_inj (by unfold KBL.dg; rw [e])
  simp only [List.mem_cons, List.not_mem_nil, or_false] at h
  rcases h with h | h | h
  · exact .inl (inj 8 (h.trans (by decide +kernel)))
  · exact .inr (.inl (inj 16 (h.trans (by decide +kernel))))
  · exact .inr (.inr (inj 32 (h.trans (by decide +kernel))))
theorem W_text {w : Nat} (h : W3 w) : (Str.ofString (toString (w : Int))) ∈ (["8", "16", "32"] : List Str) := by
  rcases h with rfl | rfl | rfl <;> decide +kernel
theorem heard_L {P : Program} {wd : World} {K : PySem.W.Frag} {CB C : Addr} {c : Nat → Addr} {H1 : Hp} {σ : L2.St} {Q : VK} (EA : ErrAt K CB c 0) (q : ∀ H2, Same H1 H2 → Q (.str (pairD "width" (.sc (.str "8"))).shown) H2) : TH P wd K CB c C (fun E H' Q' => lamL K C (c 0) (c 2) E σ H' Q') H1 Q :=
  ⟨rfl, 1, rfl, .str "8", .int (-1), .sc (.str "8"), .sc (.int (-1)), rfl, rfl, rfl, fun _ d H' sm hd => echo_word (t := .sc (.str "8")) EA hd rfl (KD.fit_of (by decide +kernel)) fun H2 s2 => q H2 (sm.trans s2), (fun w e => by cases e), (fun w n e => by cases e)⟩
/-- the four numbers, in their list -/
def NumL (pen nl : Addr) (xs : List V) (H : Hp) : Prop := ∃ ys : List V, H nl = some (.lst ys) ∧ ys.length = 4 ∧ ∀ v ∈ ys ++ xs, v ≠ .ref nl ∧ OdOk pen v H
theorem NumL.keep {pen nl : Addr} {xs : List V} {H H' : Hp} (h : NumL pen nl xs H) (k : Keep pen H H') (n : nl ≠ pen) : NumL pen nl xs H' := by
  obtain ⟨ys, e, l, a⟩ := h
  exact ⟨ys, k _ _ e n, l, fun v m => ⟨(a v m).1, (a v m).2.keep k⟩⟩
/-- what stands while a width is gone through -/
structure At (T : List (Addr × Str)) (C c1 pen pc l x : Addr) (w : Nat) (r : Int) (n : Nat) (xs : List V) (k : Nat) (H : Hp) : Prop where
  pn : PenC H pen pc k
  tb : LamX.Tabs T H
  e : H c1 = some (.tup [.int 8, .int 16, .int 32])
  hl : H l = some (.lst xs)
  nlp : l ≠ pen
  ods : OddsAt pen xs H
  B : MadeAt C H x w r (KBL.onesN w) n
section
variable {T : List (Addr × Str)} {C c1 pen pc l x nl : Addr} {w : Nat} {r : Int} {n : Nat} {xs ys : List V} {k k' : Nat} {H H' : Hp}
theorem At.ext (h : At T C c1 pen pc l x w r n xs k H) (e : LamX.ExtN H H') (tb : LamX.Tabs T H') : At T C c1 pen pc l x w r n xs k H' :=
  ⟨pen_ext h.pn e, tb, e _ _ h.e (fun ps z => by cases z), e _ _ h.hl (fun ps z => by cases z), h.nlp, h.ods.ext e, BlendAt.ext h.B e⟩
theorem At.up (h : At T C c1 pen pc l x w r n xs k H) (s : Same H H') : At T C c1 pen pc l x w r n xs k H' := h.ext (ext_same s) (KL.tabs_same h.tb s)
theorem At.mono (h : At T C c1 pen pc l x w r n xs k H) (e : k' ≤ k) : At T C c1 pen pc l x w r n xs k' H := ⟨h.pn.mono e, h.tb, h.e, h.hl, h.nlp, h.ods, h.B⟩
theorem At.draw (h : At T C c1 pen pc l x w r n xs k H) (kp : Keep pen H H') (pn : PenC H' pen pc k') : At T C c1 pen pc l x w r n xs k' H' := by
  obtain ⟨xs0, hp0⟩ := h.pn.lst
  obtain ⟨nm, dx, hB⟩ := id h.B
  exact ⟨pn, tabs_keep h.tb kp hp0, kp _ _ h.e (h.pn.not h.e (fun xs z => by cases z)), kp _ _ h.hl h.nlp, h.nlp, h.ods.keep kp, ⟨nm, dx, kp _ _ hB (h.pn.not hB (fun xs z => by cases z))⟩⟩
theorem At.put (h : At T C c1 pen pc l x w r n xs k H) {zs : List V} (hn : H nl = some (.lst ys)) (n1 : nl ≠ pen) (n2 : nl ≠ pc) (n3 : nl ≠ l) (nv : ∀ v ∈ xs, v ≠ .ref nl) : At T C c1 pen pc l x w r n xs k (upd H nl (.lst zs)) := by
  have kp : Keep nl H (upd H nl (.lst zs)) := fun b o e nb => by rw [upd_ne nb]; exact e
  obtain ⟨nm, dx, hB⟩ := id h.B
  have ne : ∀ {b : Addr} {o : HO}, H b = some o → (∀ xs, o ≠ .lst xs) → b ≠ nl := fun {b o} e no z => by
    rw [z, hn] at e
    exact no ys (Option.some.inj e).symm
  exact ⟨h.pn.keep kp n1 n2, tabs_mut h.tb hn, kp _ _ h.e (ne h.e (fun xs z => by cases z)), kp _ _ h.hl n3.symm, h.nlp, fun v m => by
    obtain ⟨np, t, o, ok⟩ := h.ods v m
    exact ⟨np, t, o.to fun a ob e g => kp a ob g (fun z => nv v m (by rw [e, z])), ok⟩, ⟨nm, dx, kp _ _ hB (ne hB (fun xs z => by cases z))⟩⟩
theorem NumL.put (h : NumL pen nl xs H) {v : V} (hv : v ≠ .ref nl ∧ OdOk pen v H) (j : Nat) : ∃ ys, H nl = some (.lst ys) ∧ ys.length = 4 ∧ NumL pen nl xs (upd H nl (.lst (ys.set j v))) := by
  obtain ⟨ys, e, l, a⟩ := h
  have kp : ∀ {u : V}, u ≠ .ref nl ∧ OdOk pen u H → u ≠ .ref nl ∧ OdOk pen u (upd H nl (.lst (ys.set j v))) := fun {u} ⟨n1, np, t, o, ok⟩ =>
    ⟨n1, np, t, o.to fun b ob e g => by rw [upd_ne (fun z => n1 (by rw [e, z]))]; exact g, ok⟩
  refine ⟨ys, e, l, ys.set j v, upd_same, by rw [List.length_set]; exact l, fun u m => ?_⟩
  rcases List.mem_append.mp m with m | m
  · rcases List.mem_or_eq_of_mem_set m with m | rfl
    · exact kp (a u (List.mem_append.mpr (.inl m)))
    · exact kp hv
  · exact kp (a u (List.mem_append.mpr (.inr m)))
end

section
variable {P : Program} {wd : World} {K : PySem.W.Frag} {mg : Str → Option Value} {base : Heap}
theorem ok_law {f CB C aW cL PO PM PL cO cM : Addr} {c : Nat → Addr} {oc kV dc pm ct : Value} {od an : Option Addr} {sl : Array (Option Value)} (look : K.lookup f = some ⟨oc, od, .func (PySem.W.fnOf "law" "law" (defArgs s_law) (defBody s_law) (defScope s_law) .none kV dc pm an (.ref cL) ct), sl⟩) (code : PySem.W.codeIn K (.ref cL) "law" = true)
    (T : TxtB K mg C aW) (TE : TxtE K mg CB c) (EA0 : ErrAt K CB c 0) (HC : HeardC K mg) (ap : Apart PO PM PL) (TB : LamX.TabB base mg cL PL) (rp : OwnM P wd K mg base 1 C "__repr__" ["self"] (spBRepr C))
    (c__law_operations_right : KG.CalleeG P wd K mg base CX0 12 "_law_operations_right" ["_law_blend", "_law_thing"] (spOps C (TT3 PO PM PL))) (c__law_made_right : KG.CalleeG P wd K mg base CX0 12 "_law_made_right" ["_law_width", "_law_numbers"] (spMade (TT3 PO PM PL)))
    (c__law_draw : KB.Callee P wd K mg base CX0 1 "_law_draw" ["_law_pen_here", "_law_many"] spDraw) (c__law_word : KB.Callee P wd K mg base CX0 2 "_law_word" ["_law_pen_here", "_law_width"] spWord) (c__law_odd : KB.Callee P wd K mg base CX0 3 "_law_odd" ["_law_pen_here", "_law_width"] spOdds)
    (c__law_pen : KB.Callee P wd K mg base CX0 1 "_law_pen" ["_law_script"] (spPen K))
    (c_Blend___init__ : CalleeI P wd K mg base (L2.CX P wd) 6 C "Blend" ["self", "width", "shift", "keep", "flip"] (spBlend C (c 0) (c 3) (c 2))) (cm_Blend_constant : KP.CalleeC P wd K mg base (L2.CX P wd) 8 C "constant" (spConst C (c 0) (c 2))) :
    KG.FnG P wd K mg base CX0 13 f (PySem.W.fnOf "law" "law" (defArgs s_law) (defBody s_law) (defScope s_law) .none kV dc pm an (.ref cL) ct) ["_law_script"] (spLaw K [(cO, PO), (cM, PM), (cL, PL)]) := by
  refine KG.fnG_body look code sc_law (fun vs H Q E h => ?_) (fun A outer s H vs Q E hr fr h => ?_)
  · obtain ⟨a, ns, rfl, _⟩ := h
    rfl
  · obtain ⟨a, ns, rfl, hS, hlen, htab, q⟩ := h
    obtain ⟨g, oc, kV, doc, pm, cdg, ct, od, an, osl, hmg, hkp, hlk, hcg, hbd⟩ := HC.ex
    have uL := uniqL ap
    have repr_Blend := rp
    have T0 : LamX.Tabs (TT3 PO PM PL) H := fun p hp => by
      rcases List.mem_cons.mp hp with rfl | hp
      · exact LamX.TabS.nil (htab (cO, PO) (List.mem_cons_self ..))
      rcases List.mem_cons.mp hp with rfl | hp
      · exact LamX.TabS.nil (htab (cM, PM) (List.mem_cons_of_mem _ (List.mem_cons_self ..)))
      · rw [List.mem_singleton.mp hp]
        exact LamX.TabS.nil (htab (cL, PL) (List.mem_cons_of_mem _ (List.mem_cons_of_mem _ (List.mem_cons_self ..))))
    obtain ⟨t', drv, rdg⟩ : ∃ t', PSs (cxOf CX0 P wd K mg base ["_law_script", "_law_pen_here", "_law_width", "_law_things", "_law_blend", "_law_kept", "_law_thing", "_law_turn", "_law_numbers", "_law_again"] "law" (defScope s_law) f (.ref cL) A outer s H E).nox (defBody s_law) t' ∧ t' { nx := fun _ H' => Q .non H', rt := Q } (start ["_law_script", "_law_pen_here", "_law_width", "_law_things", "_law_blend", "_law_kept", "_law_thing", "_law_turn", "_law_numbers", "_law_again"] [.ref a]) H := by
      refine ⟨_, (pss_cons (ps_set (i := 1) sc_law.nd rfl (by first | exact Or.inl rfl | exact Or.inr rfl) (pe_callC c__law_pen (hr.mono (by decide)) (by rfl) pass0 (pa_cons (pv 0) pa_nil)))
 (pss_cons (ps_for PassesOwn.never rfl (pi_tup (pe_tup (pa_cons pe_int (pa_cons pe_int (pa_cons pe_int pa_nil))))) (pg_name (i := 2) sc_law.nd rfl (by first | exact Or.inl rfl | exact Or.inr rfl))
 (pss_cons (ps_set (i := 3) sc_law.nd rfl (by first | exact Or.inl rfl | exact Or.inr rfl) (pe_callC c__law_odd (hr.mono (by decide)) (by rfl) pass0 (pa_cons (pv 1) (pa_cons (pv 2) pa_nil))))
 (pss_cons (ps_set (i := 4) sc_law.nd rfl (by first | exact Or.inl rfl | exact Or.inr rfl) (pe_makeC c_Blend___init__ (hr.mono (by decide)) (by rfl) passL (pa_cons (pv 2) (pa_cons (pe_op op_sub (pe_callC c__law_draw (hr.mono (by decide)) (by rfl) pass0 (pa_cons (pv 1) (pa_cons pe_int pa_nil))) pe_int) (pa_cons pe_non (pa_cons (pe_callC c__law_word (hr.mono (by decide)) (by rfl) pass0 (pa_cons (pv 1) (pa_cons (pv 2) pa_nil))) pa_nil))))))
 (pss_cons (ps_set (i := 5) sc_law.nd rfl (by first | exact Or.inl rfl | exact Or.inr rfl) (pe_callB (KC.call_reprO repr_Blend (hr.mono (by decide))) (by rfl) T.z_repr (by decide +kernel) (pa_cons (pv 4) pa_nil)))
 (pss_cons (ps_for PassesOwn.never rfl (pi_list (pv 3)) (pg_name (i := 6) sc_law.nd rfl (by first | exact Or.inl rfl | exact Or.inr rfl))
 (pss_one (ps_if (PW.pt (pw_or (pt_not (pt_val (KG.pe_callG c__law_operations_right fr (hr.mono (by decide)) (by rfl) pass0 (pa_cons (pv 4) (pa_cons (pv 6) pa_nil))))) (pw_or1 (pt_cmpR op_ne (pe_callB (KC.call_reprO repr_Blend (hr.mono (by decide))) (by rfl) T.z_repr (by decide +kernel) (pa_cons (pv 4) pa_nil)) (pv 5) (nomark _))))) (pss_one (ps_ret pe_bl))
 pss_nil)))
 (pss_one (ps_for PassesOwn.never rfl (pi_range1 rfl T.z_range (pa_cons pe_int pa_nil)) (pg_name (i := 7) sc_law.nd rfl (by first | exact Or.inl rfl | exact Or.inr rfl))
 (pss_cons (ps_set (i := 8) sc_law.nd rfl (by first | exact Or.inl rfl | exact Or.inr rfl) (pe_lst (pa_cons (pv 2) (pa_cons (pe_op op_sub (pe_callC c__law_draw (hr.mono (by decide)) (by rfl) pass0 (pa_cons (pv 1) (pa_cons pe_int pa_nil))) pe_int) (pa_cons (pe_callC c__law_word (hr.mono (by decide)) (by rfl) pass0 (pa_cons (pv 1) (pa_cons (pv 2) pa_nil))) (pa_cons (pe_callC c__law_word (hr.mono (by decide)) (by rfl) pass0 (pa_cons (pv 1) (pa_cons (pv 2) pa_nil))) pa_nil))))))
 (pss_cons (ps_for PassesOwn.never rfl (pi_range1 rfl T.z_range (pa_cons (pe_op op_add pe_int (pe_callC c__law_draw (hr.mono (by decide)) (by rfl) pass0 (pa_cons (pv 1) (pa_cons pe_int pa_nil)))) pa_nil)) (pg_name (i := 9) sc_law.nd rfl (by first | exact Or.inl rfl | exact Or.inr rfl))
 (pss_one (ps_asg (pe_ix ix_list (pv 3) (pe_callC c__law_draw (hr.mono (by decide)) (by rfl) pass0 (pa_cons (pv 1) (pa_cons (pe_callB call_len_seq (by rfl) T.z_len (by decide +kernel) (pa_cons (pv 3) pa_nil)) pa_nil))) (fun _ _ => rfl)) (pg_sub (pv 8) (pe_callC c__law_draw (hr.mono (by decide)) (by rfl) pass0 (pa_cons (pv 1) (pa_cons pe_int pa_nil))) set_list))))
 (Evl.pss_cut (ps_if (PW.pt (pw_and (pt_cmpR op_in_seq (pe_callB (KS.call_reprOd fr hr) (by rfl) T.z_repr (by decide +kernel) (pa_cons (pe_ix ix_list (pv 8) pe_int (fun _ _ => rfl)) pa_nil)) (pe_tup (pa_cons pe_str (pa_cons pe_str (pa_cons pe_str (pa_cons (pe_callB (KG.call_reprD fr hr) (by rfl) T.z_repr (by decide +kernel) (pa_cons (pv 2) pa_nil)) pa_nil))))) (by rfl)) (pw_and1 (pt_cmpR op_ne (pe_ix ix_list (pv 8) pe_int (fun _ _ => rfl)) (pv 2) (nomark _))))) (pss_one (ps_asg pe_int (pg_sub (pv 8) pe_int set_list)))
 pss_nil)
 (pss_one (ps_if (pt_not (pt_val (KG.pe_callG c__law_made_right fr (hr.mono (by decide)) (by rfl) pass0 (pa_cons (pv 2) (pa_cons (pe_callTy call_tuple_of (by rfl) T.z_tuple (by decide +kernel) (pa_cons (pv 8) pa_nil)) pa_nil))))) (pss_one (ps_ret pe_bl))
 pss_nil))))))))))))
 (pss_one (ps_ret (pe_cmpR op_eq (LamX.pe_lamcall (T := TT3 PO PM PL) (TT := TH P wd K CB c C) (k := 9) (t := lamL K C (c 0) (c 2)) (by rfl) hmg hkp hlk hcg hbd sc__law_heard rfl (Or.inl rfl) (heard_gives TE rp fr (hr.mono (by decide))) TB rfl (List.mem_cons_of_mem _ (List.mem_cons_of_mem _ (List.mem_cons_self ..))) uL (hr.mono (by decide)) (LamX.lamS_by (sc := defScope s_law) (by decide +kernel)) rfl (fun _ _ _ _ _ => rfl) (fun A1 o1 s1 H1 E1 f1 c1 hr1 => (KP.pe_cmethC cm_Blend_constant (pe_glob (v := .ref _) (by rfl) T.mg_Blend rfl) (hr1.mono (by decide)) KL.lam_pass (pa_cons pe_str (pa_cons (pe_un un_neg pe_int) pa_nil))))) (pe_callB (KY.call_reprT fr hr) (by rfl) T.z_repr (by decide +kernel) (pa_cons (pe_lst (pa_cons pe_str (pa_cons pe_str pa_nil))) pa_nil)) (nomark _)))))), at_start (σ := [some (.ref a), none, none, none, none, none, none, none, none, none]) rfl ?_⟩
      try dsimp only [cx_K]
      walk_at "rd"
      refine ⟨a, ns, rfl, hS, hlen, fun H1 pen pc s1 n1 n1c pn => ?_⟩
      have T1 := KL.tabs_same T0 s1
      walk_at "rd"
      refine ⟨by walk_at "sz", fun c1 m1 => ?_⟩
      have s3 := same_new (o := .tup [.int 8, .int 16, .int 32]) m1
      have e3 : upd H1 c1 (.tup [.int 8, .int 16, .int 32]) c1 = _ := upd_same
      replace pn := pn.up s3
      replace T1 := KL.tabs_same T1 s3
      generalize upd H1 c1 (.tup [.int 8, .int 16, .int 32]) = H2 at e3 pn T1 ⊢
      clear T0 s1 m1 htab s3
      walk_at "rd"
      refine ⟨c1, rfl, ⟨_, SqT.of e3⟩, ?_⟩
      refine forW (walk_tup (xs := [.int 8, .int 16, .int 32])) (fun i σ H' => ∃ y2 y3 y4 y5 y6 y7 y8 y9, σ = [some (.ref a), some (.ref pen), y2, y3, y4, y5, y6, y7, y8, y9] ∧ PenC H' pen pc (2000 - 500 * i) ∧ LamX.Tabs (TT3 PO PM PL) H' ∧ H' c1 = some (.tup [.int 8, .int 16, .int 32])) ⟨_, _, _, _, _, _, _, _, rfl, pn.mono (by omega), T1, e3⟩ (fun i σ H' hi ⟨_, _, _, _, _, _, _, _, _, _, _, z⟩ => SqT.of z) ?_ ?_
      · rintro i x σ H4 H4' hi ⟨y2, y3, y4, y5, y6, y7, y8, y9, rfl, pn4, tb4, e4⟩ ⟨rfl, hx⟩
        have hi3 : i < 3 := by simpa using hi
        obtain ⟨w, w3, rfl⟩ : ∃ w : Nat, W3 w ∧ x = .int w := by
          match i, hi3, hx with
          | 0, _, hx => cases hx; exact ⟨8, .inl rfl, rfl⟩
          | 1, _, hx => cases hx; exact ⟨16, .inr (.inl rfl), rfl⟩
          | 2, _, hx => cases hx; exact ⟨32, .inr (.inr rfl), rfl⟩
        clear hx hi
        have wl := w3.le
        have wp := w3.pow
        walk_at "rd"
        refine ⟨pen, pc, w, 2000 - 500 * i - 14, rfl, w3, pn4.mono (by omega), fun l xs H5 pn5 kp5 hl nlp lx ods => ?_⟩
        obtain ⟨xs0, hp0⟩ := pn4.lst
        replace tb4 := tabs_keep tb4 kp5 hp0
        replace e4 := kp5 _ _ e4 (pn4.not e4 (fun xs z => by cases z))
        clear pn4 kp5 hp0 xs0
        walk_at "rd"
        refine ⟨pen, pc, 5, 2000 - 500 * i - 15, rfl, by decide, by decide, pn5.mono (by omega), fun r H6 r0 r1 pn6 kp6 => ?_⟩
        obtain ⟨xs0, hp0⟩ := pn5.lst
        replace tb4 := tabs_keep tb4 kp6 hp0
        replace e4 := kp6 _ _ e4 (pn5.not e4 (fun xs z => by cases z))
        replace hl := kp6 _ _ hl nlp
        replace ods := ods.keep kp6
        clear pn5 kp6 hp0 xs0
        walk_at "rd"
        refine ⟨pen, pc, w, 2000 - 500 * i - 22, rfl, w3, pn6.mono (by omega), fun n H7 hn pn7 kp7 => ?_⟩
        obtain ⟨xs0, hp0⟩ := pn6.lst
        replace tb4 := tabs_keep tb4 kp7 hp0
        replace e4 := kp7 _ _ e4 (pn6.not e4 (fun xs z => by cases z))
        replace hl := kp7 _ _ hl nlp
        replace ods := ods.keep kp7
        clear pn6 kp7 hp0 xs0
        walk_at "rd"
        refine fun x dx nx ndx nxd => make_n nx ndx w3 (by omega) (by omega) hn fun H8 B s8 => ?_
        replace tb4 := KL.tabs_same tb4 s8
        replace e4 := s8 _ _ e4
        replace hl := s8 _ _ hl
        replace ods := ods.keep (Keep.same s8)
        replace pn7 := pn7.up s8
        clear s8 nx ndx nxd
        obtain ⟨nm, dx', hB⟩ := id B
        walk_at "rd"
        refine ⟨x, dx', _, rfl, hB, x, w, _, _, n, rfl, B, _, rfl, ?_⟩
        have S8 : At (TT3 PO PM PL) C c1 pen pc l x w (r - 2) n xs (2000 - 500 * i - 22) H8 := ⟨pn7, tb4, e4, hl, nlp, ods, B⟩
        clear pn7 tb4 e4 hl ods B hB pn T1 e3
        generalize ek : KBL.bText _ _ _ _ = kept
        walk_at "rd"
        refine ⟨l, rfl, ⟨_, SqL.of S8.hl⟩, ?_⟩
        refine forW (walk_list (xs := xs)) (fun j σ H' => ∃ y6, σ = [some (.ref a), some (.ref pen), some (.int w), some (.ref l), some (.ref x), some (.str kept), y6, y7, y8, y9] ∧ At (TT3 PO PM PL) C c1 pen pc l x w (r - 2) n xs (2000 - 500 * i - 22) H') ⟨_, rfl, S8⟩ (fun i σ H' hi ⟨_, _, z⟩ => SqL.of z.hl) ?_ ?_
        · rintro j v σ H9 H9' hj ⟨y6, rfl, S9⟩ ⟨rfl, hv⟩
          obtain ⟨np, t, o, ok⟩ := S9.ods v (List.mem_of_getElem? hv)
          walk_at "rd"
          refine ⟨x, w, r - 2, KBL.onesN w, n, v, t, rfl, S9.B, o, ok, S9.tb, fun H10 ex tb10 => ?_⟩
          have S10 := S9.ext ex tb10
          obtain ⟨nm2, dx2, hB2⟩ := id S10.B
          walk_at "rd"
          refine ⟨x, dx2, _, rfl, hB2, x, w, _, _, n, rfl, S10.B, _, rfl, ?_⟩
          walk_at "rd"
          refine r_iteNF (by rw [ek]) ?_
          walk_at "rd"
          exact ⟨_, rfl, S10⟩
        rintro σ H9 ⟨y6, rfl, S9⟩
        clear S8
        walk_at "rd"
        refine ⟨by decide, by decide, ?_⟩
        refine forW (walk_range (lo := 0) (n := 16)) (fun j σ H' => ∃ y7 y8 y9, σ = [some (.ref a), some (.ref pen), some (.int w), some (.ref l), some (.ref x), some (.str kept), y6, y7, y8, y9] ∧ At (TT3 PO PM PL) C c1 pen pc l x w (r - 2) n xs (2000 - 500 * i - 22 - 25 * j) H') ⟨_, _, _, rfl, S9⟩ (fun _ _ _ _ _ => trivial) ?_ ?_
        · rintro j v σ H10 H10' hj ⟨y7, y8, y9, rfl, S10⟩ ⟨rfl, rfl⟩
          clear S9
          have hj16 : j < 16 := hj
          generalize hk : 2000 - 500 * i - 22 - 25 * j = k at S10
          have hk25 : 25 ≤ k := by omega
          walk_at "rd"
          refine ⟨pen, pc, 3, k - 1, rfl, by decide, by decide, S10.pn.mono (by omega), fun r1 H11 r10 r11 pn11 kp11 => ?_⟩
          have S11 := S10.draw kp11 pn11
          walk_at "rd"
          refine ⟨pen, pc, w, k - 8, rfl, w3, pn11.mono (by omega), fun n1 H12 hn1 pn12 kp12 => ?_⟩
          have S12 := S11.draw kp12 pn12
          walk_at "rd"
          refine ⟨pen, pc, w, k - 15, rfl, w3, pn12.mono (by omega), fun n2 H13 hn2 pn13 kp13 => ?_⟩
          have S13 := S12.draw kp13 pn13
          clear S10 S11 S12 kp11 kp12 kp13 pn11 pn12 pn13
          walk_at "rd"
          refine ⟨by walk_at "sz", fun nl nnl => ?_⟩
          have q1 : nl ≠ pen := S13.pn.ne nnl
          have q2 : nl ≠ pc := S13.pn.nec nnl
          have q3 : nl ≠ l := (ne_of_none S13.hl nnl).symm
          have qv : ∀ v ∈ xs, v ≠ .ref nl := fun v m z => by
            obtain ⟨_, t, o, _⟩ := S13.ods v m
            rw [z] at o
            cases t with
            | sc s => cases s <;> cases o
            | tup l => obtain ⟨a, e, g⟩ := o; cases e; rw [nnl] at g; cases g
            | lst l => obtain ⟨a, e, g⟩ := o; cases e; rw [nnl] at g; cases g
            | dct l => obtain ⟨a, e, g⟩ := o; cases e; rw [nnl] at g; cases g
          have s14 := same_new (o := .lst [.int w, .int (r1 - 1), .int n1, .int n2]) nnl
          have S14 := S13.up s14
          have N14 : NumL pen nl xs (upd H13 nl (.lst [.int w, .int (r1 - 1), .int n1, .int n2])) := by
            refine ⟨_, upd_same, rfl, fun v m => ?_⟩
            rcases List.mem_append.mp m with m | m
            · simp only [List.mem_cons, List.not_mem_nil, or_false] at m
              rcases m with rfl | rfl | rfl | rfl
              · exact ⟨(fun z => by cases z), odd_i (by omega) (by omega)⟩
              · exact ⟨(fun z => by cases z), odd_i (by omega) (by omega)⟩
              · exact ⟨(fun z => by cases z), odd_i (by omega) (by omega)⟩
              · exact ⟨(fun z => by cases z), odd_i (by omega) (by omega)⟩
            · exact ⟨qv v m, S14.ods v m⟩
          generalize upd H13 nl (.lst [.int w, .int (r1 - 1), .int n1, .int n2]) = H14 at S14 N14 ⊢
          clear S13 s14 nnl
          walk_at "rd"
          refine ⟨pen, pc, 2, k - 16, rfl, by decide, by decide, S14.pn.mono (by omega), fun r2 H15 r20 r21 pn15 kp15 => ?_⟩
          have S15 := S14.draw kp15 pn15
          have N15 := N14.keep kp15 q1
          clear S14 N14 kp15 pn15
          walk_at "rd"
          refine ⟨by omega, by omega, ?_⟩
          refine forW (walk_range (lo := 0) (n := (1 + r2).toNat)) (fun u σ H' => ∃ y9, σ = [some (.ref a), some (.ref pen), some (.int w), some (.ref l), some (.ref x), some (.str kept), y6, some (.int (0 + (j : Int))), some (.ref nl), y9] ∧ At (TT3 PO PM PL) C c1 pen pc l x w (r - 2) n xs (k - 16 - 2 * u) H' ∧ NumL pen nl xs H') ⟨_, rfl, S15, N15⟩ (fun _ _ _ _ _ => trivial) ?_ ?_
          · rintro u v σ H16 H16' hu ⟨y9, rfl, S16, N16⟩ ⟨rfl, rfl⟩
            have hu2 : u < 2 := by omega
            clear S15 N15
            walk_at "rd"
            have hl16 := S16.hl
            refine ⟨l, _, rfl, .inl (SqL.of hl16), ?_⟩
            walk_at "rd"
            rw [lx]
            refine ⟨pen, pc, 26, k - 16 - 2 * u - 1, rfl, by decide, by decide, S16.pn.mono (by omega), fun r3 H17 r30 r31 pn17 kp17 => ?_⟩
            have S17 := S16.draw kp17 pn17
            have N17 := N16.keep kp17 q1
            clear S16 N16 kp17 pn17 hl16
            obtain ⟨n3, rfl⟩ : ∃ n3 : Nat, r3 = (n3 : Int) := ⟨r3.toNat, by omega⟩
            have hr3 : n3 < xs.length := by omega
            have er3 : atI xs (n3 : Int) = some xs[n3] := atI_nat (by simp [hr3])
            have hl17 := S17.hl
            refine r_ixL (SqL.of hl17) er3 ?_
            have mv : xs[n3] ∈ xs := List.getElem_mem hr3
            generalize xs[n3] = v at mv ⊢
            walk_at "rd"
            refine ⟨pen, pc, 4, k - 16 - 2 * (u + 1), rfl, by decide, by decide, S17.pn.mono (by omega), fun r4 H18 r40 r41 pn18 kp18 => ?_⟩
            have S18 := S17.draw kp18 pn18
            have N18 := N17.keep kp18 q1
            clear S17 N17 kp18 pn18 hl17
            obtain ⟨ys, hy, ly, N19⟩ := N18.put (v := v) ⟨qv v mv, S18.ods v mv⟩ r4.toNat
            refine r_setL hy (j := r4.toNat) (by rw [ly]; unfold ixN; rw [if_pos r40, if_pos (by simpa using r41)]) ?_
            exact ⟨_, rfl, S18.put hy q1 q2 q3 qv, N19⟩
          · rintro σ H16 ⟨y9, rfl, S16, N16⟩
            clear S15 N15
            obtain ⟨ys, hy, ly, ay⟩ := N16
            obtain ⟨v1, v2, v3, v4, rfl⟩ : ∃ v1 v2 v3 v4, ys = [v1, v2, v3, v4] := by
              match ys, ly with
              | [v1, v2, v3, v4], _ => exact ⟨_, _, _, _, rfl⟩
            obtain ⟨nv1, np1, t1, o1, k1⟩ := ay v1 (by simp)
            obtain ⟨nv2, np2, t2, o2, k2⟩ := ay v2 (by simp)
            obtain ⟨nv3, np3, t3, o3, k3⟩ := ay v3 (by simp)
            obtain ⟨nv4, np4, t4, o4, k4⟩ := ay v4 (by simp)
            clear ay ly
            refine ⟨fun σ' H' => σ' = [some (.ref a), some (.ref pen), some (.int w), some (.ref l), some (.ref x), some (.str kept), y6, some (.int (0 + (j : Int))), some (.ref nl), y9] ∧ At (TT3 PO PM PL) C c1 pen pc l x w (r - 2) n xs (k - 16 - 2 * (1 + r2).toNat) H' ∧ ∃ v1 t1, H' nl = some (.lst [v1, v2, v3, v4]) ∧ Nums w v1 v2 v3 v4 t1 t2 t3 t4 H', ?_, ?_⟩
            · walk_at "rd"
              refine ⟨v1, t1, rfl, o1, k1.sh, by have := k1.dp; omega, k1.sz, ?_⟩
              walk_at "rd"
              refine ⟨.int w, .int w, rfl, .int _, (int_ok (i := (w : Int)) (bits32 (by omega) (by omega))).sh, rfl, by simp [PyData.depth], (int_ok (i := (w : Int)) (bits32 (by omega) (by omega))).sz, ?_⟩
              rw [show (PyData.int (w : Int)).shown = Str.ofString (toString (w : Int)) by simp only [PyData.shown]]
              walk_at "rd"
              refine ⟨by walk_at "sz", fun c2 m2 => ?_⟩
              refine r_inS (zs := ["8", "16", "32", Str.ofString (toString (w : Int))]) (.inr (SqT.of upd_same)) ?_
              have s17 := same_new (o := .tup [.str "8", .str "16", .str "32", .str (Str.ofString (toString (w : Int)))]) m2
              have hy17 := s17 _ _ hy
              have S17 := S16.up s17
              have p1 := o1.same s17
              have p2 := o2.same s17
              have p3 := o3.same s17
              have p4 := o4.same s17
              generalize upd H16 c2 (.tup [.str "8", .str "16", .str "32", .str (Str.ofString (toString (w : Int)))]) = H17 at hy17 S17 p1 p2 p3 p4 ⊢
              clear s17 m2 S16 hy
              have hm : ∀ z : Str, z ∈ (["8", "16", "32", Str.ofString (toString (w : Int))] : List Str) ↔ z ∈ (["8", "16", "32"] : List Str) := fun z => by
                constructor
                · intro h
                  rcases List.mem_append.mp (show z ∈ (["8", "16", "32"] : List Str) ++ [Str.ofString (toString (w : Int))] from h) with h | h
                  · exact h
                  · rw [List.mem_singleton.mp h]; exact W_text w3
                · exact fun h => List.mem_append.mpr (.inl h)
              walk_at "rd"
              refine r_ite2 (fun hin => ?_) (fun hin => ?_)
              · rw [hm] at hin
                have hI : isIntD t1 = true := by
                  cases z : isIntD t1 with
                  | true => rfl
                  | false => exact absurd hin (k1.nt z)
                obtain ⟨i1, rfl⟩ := isIntD_of hI
                obtain rfl : v1 = .int i1 := o1
                walk_at "rd"
                refine r_iteN2 (fun h => ?_) (fun h => ?_)
                · walk_at "rd"
                  have kp : ∀ {v : V} {t : Dt}, v ≠ .ref nl → OdAt H17 v t → OdAt (upd H17 nl (.lst [.int 9, v2, v3, v4])) v t := fun {v t} nv o => o.to fun b ob e g => by rw [upd_ne (fun z => nv (by rw [e, z]))]; exact g
                  refine ⟨rfl, S17.put hy17 q1 q2 q3 qv, .int 9, .sc (.int 9), upd_same, rfl, kp nv2 p2, kp nv3 p3, kp nv4 p4, int_ok (by decide), k2, k3, k4, w3, fun w' e w3' => ?_⟩
                  have e9 : (9 : Int) = w' := by cases e; rfl
                  rcases w3' with rfl | rfl | rfl <;> cases e9
                · walk_at "rd"
                  refine ⟨rfl, S17, _, _, hy17, p1, p2, p3, p4, k1, k2, k3, k4, w3, fun w' e _ => ?_⟩
                  have e1 : i1 = (w' : Int) := by cases e; rfl
                  have e2 : i1 = (w : Int) := intEq h
                  omega
              · walk_at "rd"
                refine ⟨rfl, S17, _, _, hy17, p1, p2, p3, p4, k1, k2, k3, k4, w3, fun w' e w3' => ?_⟩
                refine absurd ((hm _).mpr ?_) hin
                rw [e]
                show (PyData.int (w' : Int)).shown ∈ _
                rw [show (PyData.int (w' : Int)).shown = Str.ofString (toString (w' : Int)) by simp only [PyData.shown]]
                exact W_text w3'
            · rintro σ' H17 ⟨rfl, S17, v1, t1, hy17, N17⟩
              walk_at "rd"
              refine ⟨nl, _, rfl, .inl ⟨SqL.of hy17, fun tu nt => ?_⟩⟩
              have s18 := same_new (o := .tup [v1, v2, v3, v4]) nt
              have S18 := S17.up s18
              walk_at "rd"
              refine ⟨tu, w, v1, v2, v3, v4, t1, t2, t3, t4, rfl, upd_same, N17.ext (ext_same s18), S18.tb, fun H19 ex tb19 => ?_⟩
              walk_at "rd"
              exact ⟨_, _, _, rfl, (S18.ext ex tb19).mono (by omega)⟩
        · rintro σ H10 ⟨y7, y8, y9, rfl, S10⟩
          walk_at "rd"
          exact ⟨_, _, _, _, _, _, _, _, rfl, S10.pn.mono (by omega), S10.tb, S10.e⟩
      · rintro σ H4 ⟨y2, y3, y4, y5, y6, y7, y8, y9, rfl, pn4, tb4, e4⟩
        walk_at "rd"
        refine ⟨tb4, fun H5 e5 t5 => ?_⟩
        refine heard_L EA0 fun H6 s6 => ?_
        walk_at "rd"
        refine ⟨by walk_at "sz", fun c2 n2 => ?_⟩
        walk_at "rd"
        refine ⟨c2, "width", .str "8", .sc (.str "8"), rfl, upd_same, rfl, KD.fit_of (by decide +kernel), ?_⟩
        generalize (pairD "width" (.sc (.str "8"))).shown = z
        walk_at "rd"
        rw [decide_eq_true rfl]
        exact q _
    exact ⟨t', drv.nox, rdg⟩
end
end K05


namespace K05
open PySem L2 KB KO KY
abbrev s_I0 : Stmt := inClass (top 3) 0
abbrev s_I2 : Stmt := inClass (top 5) 0
abbrev s_I3 : Stmt := inClass (top 6) 0
theorem sqK {K : PySem.W.Frag} {a : Addr} {dd : Option Addr} {its : Array Value} {n : Nat} {sl : Array (Option Value)} {xs : List V} (h : K.lookup a = some ⟨.type "tuple", dd, .seq its n, sl⟩) (hz : its.size ≤ 100) (r : Vals xs its.toList) : ∀ H, SqT K H a xs :=
  fun _ => .inr ⟨_, its, n, h, rfl, rfl, Nat.le_trans hz (by decide), r⟩
theorem free_only {sc : Scope} {x : Str} (h : ∀ z ∈ sc.names, z.2 = .free → z.1 = x) : ∀ y, sc.names.lookup y = some .free → y = x := fun y e => h (y, .free) (PySem.mem_of_lookup e) rfl
theorem code_of {K : PySem.W.Frag} {x : Str} {f c Pt : Addr} {o : Obj} {fd : FuncData} (h : PySem.W.tabIn K x = some (c, Pt)) (h1 : PySem.W.nsIn K mainGlobals x = some (some (.ref f))) (h2 : K.lookup f = some o) (h3 : o.data = .func fd) : fd.code = .ref c := by
  obtain ⟨o1, o2, o3, o4⟩ := o
  simp only at h3
  subst h3
  unfold PySem.W.tabIn at h
  rw [h1] at h
  dsimp only at h
  rw [h2] at h
  dsimp only at h
  split at h
  · rename_i c' hc
    split at h
    · split at h
      · cases h
        exact hc
      · cases h
    · cases h
  · cases h
theorem fnR_of {P : Program} {w : World} {K : PySem.W.Frag} {mg : Str → Option Value} {base : Heap} {CX : CXT} {k : Nat} {f : Addr} {fd : FuncData} {ps : List Str} {sp : Sp} (F : FnOk P w K mg base CX k f fd ps sp) (b : Binds K fd ps []) : FnR P w K mg base CX k f sp := fun A outer s H us vs Q E hr e0 r h => by
  have z := b s us (e0.mod.kin.keeps fun b o e => (e0.bs b o e).1) (by rw [List.append_nil, ← r.length]; exact F.len _ _ _ _ h)
  rw [List.append_nil] at z
  exact F.run A outer s H ⟨us, []⟩ us vs Q E hr e0 z r h
def errsOf (e0 e1 e2 e3 e4 e5 : Addr) : Nat → Addr
  | 0 => e0
  | 1 => e1
  | 2 => e2
  | 3 => e3
  | 4 => e4
  | _ => e5
theorem all_mk {l : PySem.W.OpenLaw} {w : World} {K : PySem.W.Frag} {h : Heap} {mg : Str → Option Value} {fa C_Blend f_is_integer f_need_width f_ones f_is_word f_need_word f_shifted f_need_step f_Blend___init__ DT_Blend___init__ f_Blend_constant p_Blend_constant f_Blend___call__ f_Blend___and__ f_Blend___rand__ f_Blend___or__ f_Blend___ror__ f_Blend___xor__ f_Blend___rxor__ f_Blend___lshift__ f_Blend___rshift__ f_Blend___repr__ f_moved f__law_pen f__law_draw f__law_word f__law_heard f__law_odd f__law_whole f__law_due f__law_made_right f__law_operations_right f_law CB aW cO PO cM PM cL PL e0 e1 e2 e3 e4 e5 cda0 ccell0 fI0 N_E0 cda2 ccell2 fI2 N_E2 cda3 ccell3 fI3 N_E3 : Addr} (X : K.In h) (G : h.Ns mainGlobals mg) (hfa : mg "law" = some (.ref fa))
    {od_is_integer an_is_integer : Option Addr} {sl_is_integer : Array (Option Value)} {oc_is_integer kV_is_integer dc_is_integer pm_is_integer cd_is_integer ct_is_integer : Value}
    {od_need_width an_need_width : Option Addr} {sl_need_width : Array (Option Value)} {oc_need_width kV_need_width dc_need_width pm_need_width cd_need_width ct_need_width : Value}
    {od_ones an_ones : Option Addr} {sl_ones : Array (Option Value)} {oc_ones kV_ones dc_ones pm_ones cd_ones ct_ones : Value}
    {od_is_word an_is_word : Option Addr} {sl_is_word : Array (Option Value)} {oc_is_word kV_is_word dc_is_word pm_is_word cd_is_word ct_is_word : Value}
    {od_need_word an_need_word : Option Addr} {sl_need_word : Array (Option Value)} {oc_need_word kV_need_word dc_need_word pm_need_word cd_need_word ct_need_word : Value}
    {od_shifted an_shifted : Option Addr} {sl_shifted : Array (Option Value)} {oc_shifted kV_shifted dc_shifted pm_shifted cd_shifted ct_shifted : Value}
    {od_need_step an_need_step : Option Addr} {sl_need_step : Array (Option Value)} {oc_need_step kV_need_step dc_need_step pm_need_step cd_need_step ct_need_step : Value}
    {od_Blend___init__ an_Blend___init__ : Option Addr} {sl_Blend___init__ : Array (Option Value)} {oc_Blend___init__ kV_Blend___init__ dc_Blend___init__ pm_Blend___init__ cd_Blend___init__ ct_Blend___init__ : Value}
    {dd_DT_Blend___init__ : Option Addr} {n_DT_Blend___init__ : Nat} {sl_DT_Blend___init__ : Array (Option Value)} {tk_Blend___init___0 tk_Blend___init___2 : Tok}
    {od_Blend_constant an_Blend_constant : Option Addr} {sl_Blend_constant : Array (Option Value)} {oc_Blend_constant kV_Blend_constant dc_Blend_constant pm_Blend_constant cd_Blend_constant ct_Blend_constant : Value}
    {rs_Blend_constant : List Value}
    {od_Blend___call__ an_Blend___call__ : Option Addr} {sl_Blend___call__ : Array (Option Value)} {oc_Blend___call__ kV_Blend___call__ dc_Blend___call__ pm_Blend___call__ cd_Blend___call__ ct_Blend___call__ : Value}
    {od_Blend___and__ an_Blend___and__ : Option Addr} {sl_Blend___and__ : Array (Option Value)} {oc_Blend___and__ kV_Blend___and__ dc_Blend___and__ pm_Blend___and__ cd_Blend___and__ ct_Blend___and__ : Value}
    {od_Blend___rand__ an_Blend___rand__ : Option Addr} {sl_Blend___rand__ : Array (Option Value)} {oc_Blend___rand__ kV_Blend___rand__ dc_Blend___rand__ pm_Blend___rand__ cd_Blend___rand__ ct_Blend___rand__ : Value}
    {od_Blend___or__ an_Blend___or__ : Option Addr} {sl_Blend___or__ : Array (Option Value)} {oc_Blend___or__ kV_Blend___or__ dc_Blend___or__ pm_Blend___or__ cd_Blend___or__ ct_Blend___or__ : Value}
    {od_Blend___ror__ an_Blend___ror__ : Option Addr} {sl_Blend___ror__ : Array (Option Value)} {oc_Blend___ror__ kV_Blend___ror__ dc_Blend___ror__ pm_Blend___ror__ cd_Blend___ror__ ct_Blend___ror__ : Value}
    {od_Blend___xor__ an_Blend___xor__ : Option Addr} {sl_Blend___xor__ : Array (Option Value)} {oc_Blend___xor__ kV_Blend___xor__ dc_Blend___xor__ pm_Blend___xor__ cd_Blend___xor__ ct_Blend___xor__ : Value}
    {od_Blend___rxor__ an_Blend___rxor__ : Option Addr} {sl_Blend___rxor__ : Array (Option Value)} {oc_Blend___rxor__ kV_Blend___rxor__ dc_Blend___rxor__ pm_Blend___rxor__ cd_Blend___rxor__ ct_Blend___rxor__ : Value}
    {od_Blend___lshift__ an_Blend___lshift__ : Option Addr} {sl_Blend___lshift__ : Array (Option Value)} {oc_Blend___lshift__ kV_Blend___lshift__ dc_Blend___lshift__ pm_Blend___lshift__ cd_Blend___lshift__ ct_Blend___lshift__ : Value}
    {od_Blend___rshift__ an_Blend___rshift__ : Option Addr} {sl_Blend___rshift__ : Array (Option Value)} {oc_Blend___rshift__ kV_Blend___rshift__ dc_Blend___rshift__ pm_Blend___rshift__ cd_Blend___rshift__ ct_Blend___rshift__ : Value}
    {od_Blend___repr__ an_Blend___repr__ : Option Addr} {sl_Blend___repr__ : Array (Option Value)} {oc_Blend___repr__ kV_Blend___repr__ dc_Blend___repr__ pm_Blend___repr__ cd_Blend___repr__ ct_Blend___repr__ : Value}
    {od_moved an_moved : Option Addr} {sl_moved : Array (Option Value)} {oc_moved kV_moved dc_moved pm_moved cd_moved ct_moved : Value}
    {od__law_pen an__law_pen : Option Addr} {sl__law_pen : Array (Option Value)} {oc__law_pen kV__law_pen dc__law_pen pm__law_pen cd__law_pen ct__law_pen : Value}
    {od__law_draw an__law_draw : Option Addr} {sl__law_draw : Array (Option Value)} {oc__law_draw kV__law_draw dc__law_draw pm__law_draw cd__law_draw ct__law_draw : Value}
    {od__law_word an__law_word : Option Addr} {sl__law_word : Array (Option Value)} {oc__law_word kV__law_word dc__law_word pm__law_word cd__law_word ct__law_word : Value}
    {od__law_heard an__law_heard : Option Addr} {sl__law_heard : Array (Option Value)} {oc__law_heard kV__law_heard dc__law_heard pm__law_heard cd__law_heard ct__law_heard : Value}
    {od__law_odd an__law_odd : Option Addr} {sl__law_odd : Array (Option Value)} {oc__law_odd kV__law_odd dc__law_odd pm__law_odd cd__law_odd ct__law_odd : Value}
    {od__law_whole an__law_whole : Option Addr} {sl__law_whole : Array (Option Value)} {oc__law_whole kV__law_whole dc__law_whole pm__law_whole cd__law_whole ct__law_whole : Value}
    {od__law_due an__law_due : Option Addr} {sl__law_due : Array (Option Value)} {oc__law_due kV__law_due dc__law_due pm__law_due cd__law_due ct__law_due : Value}
    {od__law_made_right an__law_made_right : Option Addr} {sl__law_made_right : Array (Option Value)} {oc__law_made_right kV__law_made_right dc__law_made_right pm__law_made_right cd__law_made_right ct__law_made_right : Value}
    {od__law_operations_right an__law_operations_right : Option Addr} {sl__law_operations_right : Array (Option Value)} {oc__law_operations_right kV__law_operations_right dc__law_operations_right pm__law_operations_right cd__law_operations_right ct__law_operations_right : Value}
    {od_law an_law : Option Addr} {sl_law : Array (Option Value)} {oc_law kV_law dc_law pm_law cd_law ct_law : Value}
    {dd_W : Option Addr} {n_W : Nat} {sl_W : Array (Option Value)} {tw0 tw1 tw2 : Tok}
    {rc_shr : Option Value}
    {rc_shl : Option Value}
    {o_E0 : Obj} {nm_E0 qq_E0 : Str} {bs_E0 bm_E0 : List Value} {sn_E0 : List Str} {sub_E0 : List Value} {ab_E0 : Bool} {col_E0 : Option Bool} {dd_E0 : Option Addr} {k0_E0 k1_E0 k2_E0 k3_E0 k5_E0 : Option Value} {od_I0 an_I0 cdd_I0 cld_I0 : Option Addr} {sl_I0 ccs_I0 csl_I0 : Array (Option Value)} {oc_I0 kV_I0 dc_I0 pm_I0 ct_I0 ccl_I0 cl_I0 : Value} {vs_I0 : Array Value} {file_I0 : Str} {tf_I0 : Tok}
    {o_E2 : Obj} {nm_E2 qq_E2 : Str} {bs_E2 bm_E2 : List Value} {sn_E2 : List Str} {sub_E2 : List Value} {ab_E2 : Bool} {col_E2 : Option Bool} {dd_E2 : Option Addr} {k0_E2 k1_E2 k2_E2 k3_E2 k5_E2 : Option Value} {od_I2 an_I2 cdd_I2 cld_I2 : Option Addr} {sl_I2 ccs_I2 csl_I2 : Array (Option Value)} {oc_I2 kV_I2 dc_I2 pm_I2 ct_I2 ccl_I2 cl_I2 : Value} {vs_I2 : Array Value} {file_I2 : Str} {tf_I2 : Tok}
    {o_E3 : Obj} {nm_E3 qq_E3 : Str} {bs_E3 bm_E3 : List Value} {sn_E3 : List Str} {sub_E3 : List Value} {ab_E3 : Bool} {col_E3 : Option Bool} {dd_E3 : Option Addr} {k0_E3 k1_E3 k2_E3 k3_E3 k5_E3 : Option Value} {od_I3 an_I3 cdd_I3 cld_I3 : Option Addr} {sl_I3 ccs_I3 csl_I3 : Array (Option Value)} {oc_I3 kV_I3 dc_I3 pm_I3 ct_I3 ccl_I3 cl_I3 : Value} {vs_I3 : Array Value} {file_I3 : Str} {tf_I3 : Tok}
    (aC_Blend : PySem.W.nsIn K mainGlobals "Blend" = some (some (.ref C_Blend)))
    (pg_Blend : PySem.W.plainGet K C_Blend Str.empty = true)
    (hd_Blend : PySem.W.hasDictIn K C_Blend = true)
    (po_Blend : PySem.W.plainOver K C_Blend = true)
    (sa_Blend : PySem.W.findIn K (.ref C_Blend) "__setattr__" = some (some (.builtin "object.__setattr__")))
    (mk_Blend : PySem.W.makesIn K C_Blend = true)
    (kc_Blend : PySem.W.keepIn K (.ref C_Blend) = true)
    (n_Blend_width : PySem.W.findIn K (.ref C_Blend) "width" = some none)
    (n_Blend_shift : PySem.W.findIn K (.ref C_Blend) "shift" = some none)
    (n_Blend_keep : PySem.W.findIn K (.ref C_Blend) "keep" = some none)
    (n_Blend_flip : PySem.W.findIn K (.ref C_Blend) "flip" = some none)
    (a_is_integer : PySem.W.nsIn K mainGlobals "is_integer" = some (some (.ref f_is_integer)))
    (l_is_integer : K.lookup f_is_integer = some ⟨oc_is_integer, od_is_integer, .func (PySem.W.fnOf "is_integer" "is_integer" (defArgs s_is_integer) (defBody s_is_integer) (defScope s_is_integer) .none kV_is_integer dc_is_integer pm_is_integer an_is_integer cd_is_integer ct_is_integer), sl_is_integer⟩)
    (c_is_integer : PySem.W.codeIn K cd_is_integer "is_integer" = true)
    (k_is_integer : PySem.W.keepIn K (.ref f_is_integer) = true)
    (a_need_width : PySem.W.nsIn K mainGlobals "need_width" = some (some (.ref f_need_width)))
    (l_need_width : K.lookup f_need_width = some ⟨oc_need_width, od_need_width, .func (PySem.W.fnOf "need_width" "need_width" (defArgs s_need_width) (defBody s_need_width) (defScope s_need_width) .none kV_need_width dc_need_width pm_need_width an_need_width cd_need_width ct_need_width), sl_need_width⟩)
    (c_need_width : PySem.W.codeIn K cd_need_width "need_width" = true)
    (k_need_width : PySem.W.keepIn K (.ref f_need_width) = true)
    (a_ones : PySem.W.nsIn K mainGlobals "ones" = some (some (.ref f_ones)))
    (l_ones : K.lookup f_ones = some ⟨oc_ones, od_ones, .func (PySem.W.fnOf "ones" "ones" (defArgs s_ones) (defBody s_ones) (defScope s_ones) .none kV_ones dc_ones pm_ones an_ones cd_ones ct_ones), sl_ones⟩)
    (c_ones : PySem.W.codeIn K cd_ones "ones" = true)
    (k_ones : PySem.W.keepIn K (.ref f_ones) = true)
    (a_is_word : PySem.W.nsIn K mainGlobals "is_word" = some (some (.ref f_is_word)))
    (l_is_word : K.lookup f_is_word = some ⟨oc_is_word, od_is_word, .func (PySem.W.fnOf "is_word" "is_word" (defArgs s_is_word) (defBody s_is_word) (defScope s_is_word) .none kV_is_word dc_is_word pm_is_word an_is_word cd_is_word ct_is_word), sl_is_word⟩)
    (c_is_word : PySem.W.codeIn K cd_is_word "is_word" = true)
    (k_is_word : PySem.W.keepIn K (.ref f_is_word) = true)
    (a_need_word : PySem.W.nsIn K mainGlobals "need_word" = some (some (.ref f_need_word)))
    (l_need_word : K.lookup f_need_word = some ⟨oc_need_word, od_need_word, .func (PySem.W.fnOf "need_word" "need_word" (defArgs s_need_word) (defBody s_need_word) (defScope s_need_word) .none kV_need_word dc_need_word pm_need_word an_need_word cd_need_word ct_need_word), sl_need_word⟩)
    (c_need_word : PySem.W.codeIn K cd_need_word "need_word" = true)
    (k_need_word : PySem.W.keepIn K (.ref f_need_word) = true)
    (a_shifted : PySem.W.nsIn K mainGlobals "shifted" = some (some (.ref f_shifted)))
    (l_shifted : K.lookup f_shifted = some ⟨oc_shifted, od_shifted, .func (PySem.W.fnOf "shifted" "shifted" (defArgs s_shifted) (defBody s_shifted) (defScope s_shifted) .none kV_shifted dc_shifted pm_shifted an_shifted cd_shifted ct_shifted), sl_shifted⟩)
    (c_shifted : PySem.W.codeIn K cd_shifted "shifted" = true)
    (k_shifted : PySem.W.keepIn K (.ref f_shifted) = true)
    (a_need_step : PySem.W.nsIn K mainGlobals "need_step" = some (some (.ref f_need_step)))
    (l_need_step : K.lookup f_need_step = some ⟨oc_need_step, od_need_step, .func (PySem.W.fnOf "need_step" "need_step" (defArgs s_need_step) (defBody s_need_step) (defScope s_need_step) .none kV_need_step dc_need_step pm_need_step an_need_step cd_need_step ct_need_step), sl_need_step⟩)
    (c_need_step : PySem.W.codeIn K cd_need_step "need_step" = true)
    (k_need_step : PySem.W.keepIn K (.ref f_need_step) = true)
    (a_Blend___init__ : PySem.W.findIn K (.ref C_Blend) "__init__" = some (some (.ref f_Blend___init__)))
    (i_Blend___init__ : PySem.W.isFn K (.ref f_Blend___init__) = true)
    (l_Blend___init__ : K.lookup f_Blend___init__ = some ⟨oc_Blend___init__, od_Blend___init__, .func (PySem.W.fnOf "__init__" "Blend.__init__" (defArgs s_Blend___init__) (defBody s_Blend___init__) (defScope s_Blend___init__) (.ref DT_Blend___init__) kV_Blend___init__ dc_Blend___init__ pm_Blend___init__ an_Blend___init__ cd_Blend___init__ ct_Blend___init__), sl_Blend___init__⟩)
    (dt_Blend___init__ : K.lookup DT_Blend___init__ = some ⟨.type "tuple", dd_DT_Blend___init__, .seq #[.int 0 tk_Blend___init___0, .none, .int 0 tk_Blend___init___2] n_DT_Blend___init__, sl_DT_Blend___init__⟩)
    (c_Blend___init__ : PySem.W.codeIn K cd_Blend___init__ "Blend.__init__" = true)
    (k_Blend___init__ : PySem.W.keepIn K (.ref f_Blend___init__) = true)
    (a_Blend_constant : PySem.W.findCls K (.ref C_Blend) (.type "type") "constant" = some (.get (.builtin "classmethod.__get__") (.ref p_Blend_constant) .none (.ref C_Blend)))
    (rc_Blend_constant : PySem.W.recIn K p_Blend_constant "classmethod" = some (.ref f_Blend_constant :: rs_Blend_constant))
    (fi_Blend_constant : PySem.W.fnIn K f_Blend_constant = true)
    (l_Blend_constant : K.lookup f_Blend_constant = some ⟨oc_Blend_constant, od_Blend_constant, .func (PySem.W.fnOf "constant" "Blend.constant" (defArgs s_Blend_constant) (defBody s_Blend_constant) (defScope s_Blend_constant) .none kV_Blend_constant dc_Blend_constant pm_Blend_constant an_Blend_constant cd_Blend_constant ct_Blend_constant), sl_Blend_constant⟩)
    (c_Blend_constant : PySem.W.codeIn K cd_Blend_constant "Blend.constant" = true)
    (k_Blend_constant : PySem.W.keepIn K (.ref f_Blend_constant) = true)
    (a_Blend___call__ : PySem.W.findIn K (.ref C_Blend) "__call__" = some (some (.ref f_Blend___call__)))
    (i_Blend___call__ : PySem.W.isFn K (.ref f_Blend___call__) = true)
    (l_Blend___call__ : K.lookup f_Blend___call__ = some ⟨oc_Blend___call__, od_Blend___call__, .func (PySem.W.fnOf "__call__" "Blend.__call__" (defArgs s_Blend___call__) (defBody s_Blend___call__) (defScope s_Blend___call__) .none kV_Blend___call__ dc_Blend___call__ pm_Blend___call__ an_Blend___call__ cd_Blend___call__ ct_Blend___call__), sl_Blend___call__⟩)
    (c_Blend___call__ : PySem.W.codeIn K cd_Blend___call__ "Blend.__call__" = true)
    (k_Blend___call__ : PySem.W.keepIn K (.ref f_Blend___call__) = true)
    (a_Blend___and__ : PySem.W.findIn K (.ref C_Blend) "__and__" = some (some (.ref f_Blend___and__)))
    (i_Blend___and__ : PySem.W.isFn K (.ref f_Blend___and__) = true)
    (l_Blend___and__ : K.lookup f_Blend___and__ = some ⟨oc_Blend___and__, od_Blend___and__, .func (PySem.W.fnOf "__and__" "Blend.__and__" (defArgs s_Blend___and__) (defBody s_Blend___and__) (defScope s_Blend___and__) .none kV_Blend___and__ dc_Blend___and__ pm_Blend___and__ an_Blend___and__ cd_Blend___and__ ct_Blend___and__), sl_Blend___and__⟩)
    (c_Blend___and__ : PySem.W.codeIn K cd_Blend___and__ "Blend.__and__" = true)
    (k_Blend___and__ : PySem.W.keepIn K (.ref f_Blend___and__) = true)
    (a_Blend___rand__ : PySem.W.findIn K (.ref C_Blend) "__rand__" = some (some (.ref f_Blend___rand__)))
    (i_Blend___rand__ : PySem.W.isFn K (.ref f_Blend___rand__) = true)
    (l_Blend___rand__ : K.lookup f_Blend___rand__ = some ⟨oc_Blend___rand__, od_Blend___rand__, .func (PySem.W.fnOf "__rand__" "Blend.__rand__" (defArgs s_Blend___rand__) (defBody s_Blend___rand__) (defScope s_Blend___rand__) .none kV_Blend___rand__ dc_Blend___rand__ pm_Blend___rand__ an_Blend___rand__ cd_Blend___rand__ ct_Blend___rand__), sl_Blend___rand__⟩)
    (c_Blend___rand__ : PySem.W.codeIn K cd_Blend___rand__ "Blend.__rand__" = true)
    (k_Blend___rand__ : PySem.W.keepIn K (.ref f_Blend___rand__) = true)
    (a_Blend___or__ : PySem.W.findIn K (.ref C_Blend) "__or__" = some (some (.ref f_Blend___or__)))
    (i_Blend___or__ : PySem.W.isFn K (.ref f_Blend___or__) = true)
    (l_Blend___or__ : K.lookup f_Blend___or__ = some ⟨oc_Blend___or__, od_Blend___or__, .func (PySem.W.fnOf "__or__" "Blend.__or__" (defArgs s_Blend___or__) (defBody s_Blend___or__) (defScope s_Blend___or__) .none kV_Blend___or__ dc_Blend___or__ pm_Blend___or__ an_Blend___or__ cd_Blend___or__ ct_Blend___or__), sl_Blend___or__⟩)
    (c_Blend___or__ : PySem.W.codeIn K cd_Blend___or__ "Blend.__or__" = true)
    (k_Blend___or__ : PySem.W.keepIn K (.ref f_Blend___or__) = true)
    (a_Blend___ror__ : PySem.W.findIn K (.ref C_Blend) "__ror__" = some (some (.ref f_Blend___ror__)))
    (i_Blend___ror__ : PySem.W.isFn K (.ref f_Blend___ror__) = true)
    (l_Blend___ror__ : K.lookup f_Blend___ror__ = some ⟨oc_Blend___ror__, od_Blend___ror__, .func (PySem.W.fnOf "__ror__" "Blend.__ror__" (defArgs s_Blend___ror__) (defBody s_Blend___ror__) (defScope s_Blend___ror__) .none kV_Blend___ror__ dc_Blend___ror__ pm_Blend___ror__ an_Blend___ror__ cd_Blend___ror__ ct_Blend___ror__), sl_Blend___ror__⟩)
    (c_Blend___ror__ : PySem.W.codeIn K cd_Blend___ror__ "Blend.__ror__" = true)
    (k_Blend___ror__ : PySem.W.keepIn K (.ref f_Blend___ror__) = true)
    (a_Blend___xor__ : PySem.W.findIn K (.ref C_Blend) "__xor__" = some (some (.ref f_Blend___xor__)))
    (i_Blend___xor__ : PySem.W.isFn K (.ref f_Blend___xor__) = true)
    (l_Blend___xor__ : K.lookup f_Blend___xor__ = some ⟨oc_Blend___xor__, od_Blend___xor__, .func (PySem.W.fnOf "__xor__" "Blend.__xor__" (defArgs s_Blend___xor__) (defBody s_Blend___xor__) (defScope s_Blend___xor__) .none kV_Blend___xor__ dc_Blend___xor__ pm_Blend___xor__ an_Blend___xor__ cd_Blend___xor__ ct_Blend___xor__), sl_Blend___xor__⟩)
    (c_Blend___xor__ : PySem.W.codeIn K cd_Blend___xor__ "Blend.__xor__" = true)
    (k_Blend___xor__ : PySem.W.keepIn K (.ref f_Blend___xor__) = true)
    (a_Blend___rxor__ : PySem.W.findIn K (.ref C_Blend) "__rxor__" = some (some (.ref f_Blend___rxor__)))
    (i_Blend___rxor__ : PySem.W.isFn K (.ref f_Blend___rxor__) = true)
    (l_Blend___rxor__ : K.lookup f_Blend___rxor__ = some ⟨oc_Blend___rxor__, od_Blend___rxor__, .func (PySem.W.fnOf "__rxor__" "Blend.__rxor__" (defArgs s_Blend___rxor__) (defBody s_Blend___rxor__) (defScope s_Blend___rxor__) .none kV_Blend___rxor__ dc_Blend___rxor__ pm_Blend___rxor__ an_Blend___rxor__ cd_Blend___rxor__ ct_Blend___rxor__), sl_Blend___rxor__⟩)
    (c_Blend___rxor__ : PySem.W.codeIn K cd_Blend___rxor__ "Blend.__rxor__" = true)
    (k_Blend___rxor__ : PySem.W.keepIn K (.ref f_Blend___rxor__) = true)
    (a_Blend___lshift__ : PySem.W.findIn K (.ref C_Blend) "__lshift__" = some (some (.ref f_Blend___lshift__)))
    (i_Blend___lshift__ : PySem.W.isFn K (.ref f_Blend___lshift__) = true)
    (l_Blend___lshift__ : K.lookup f_Blend___lshift__ = some ⟨oc_Blend___lshift__, od_Blend___lshift__, .func (PySem.W.fnOf "__lshift__" "Blend.__lshift__" (defArgs s_Blend___lshift__) (defBody s_Blend___lshift__) (defScope s_Blend___lshift__) .none kV_Blend___lshift__ dc_Blend___lshift__ pm_Blend___lshift__ an_Blend___lshift__ cd_Blend___lshift__ ct_Blend___lshift__), sl_Blend___lshift__⟩)
    (c_Blend___lshift__ : PySem.W.codeIn K cd_Blend___lshift__ "Blend.__lshift__" = true)
    (k_Blend___lshift__ : PySem.W.keepIn K (.ref f_Blend___lshift__) = true)
    (a_Blend___rshift__ : PySem.W.findIn K (.ref C_Blend) "__rshift__" = some (some (.ref f_Blend___rshift__)))
    (i_Blend___rshift__ : PySem.W.isFn K (.ref f_Blend___rshift__) = true)
    (l_Blend___rshift__ : K.lookup f_Blend___rshift__ = some ⟨oc_Blend___rshift__, od_Blend___rshift__, .func (PySem.W.fnOf "__rshift__" "Blend.__rshift__" (defArgs s_Blend___rshift__) (defBody s_Blend___rshift__) (defScope s_Blend___rshift__) .none kV_Blend___rshift__ dc_Blend___rshift__ pm_Blend___rshift__ an_Blend___rshift__ cd_Blend___rshift__ ct_Blend___rshift__), sl_Blend___rshift__⟩)
    (c_Blend___rshift__ : PySem.W.codeIn K cd_Blend___rshift__ "Blend.__rshift__" = true)
    (k_Blend___rshift__ : PySem.W.keepIn K (.ref f_Blend___rshift__) = true)
    (a_Blend___repr__ : PySem.W.findIn K (.ref C_Blend) "__repr__" = some (some (.ref f_Blend___repr__)))
    (i_Blend___repr__ : PySem.W.isFn K (.ref f_Blend___repr__) = true)
    (l_Blend___repr__ : K.lookup f_Blend___repr__ = some ⟨oc_Blend___repr__, od_Blend___repr__, .func (PySem.W.fnOf "__repr__" "Blend.__repr__" (defArgs s_Blend___repr__) (defBody s_Blend___repr__) (defScope s_Blend___repr__) .none kV_Blend___repr__ dc_Blend___repr__ pm_Blend___repr__ an_Blend___repr__ cd_Blend___repr__ ct_Blend___repr__), sl_Blend___repr__⟩)
    (c_Blend___repr__ : PySem.W.codeIn K cd_Blend___repr__ "Blend.__repr__" = true)
    (k_Blend___repr__ : PySem.W.keepIn K (.ref f_Blend___repr__) = true)
    (a_moved : PySem.W.nsIn K mainGlobals "moved" = some (some (.ref f_moved)))
    (l_moved : K.lookup f_moved = some ⟨oc_moved, od_moved, .func (PySem.W.fnOf "moved" "moved" (defArgs s_moved) (defBody s_moved) (defScope s_moved) .none kV_moved dc_moved pm_moved an_moved cd_moved ct_moved), sl_moved⟩)
    (c_moved : PySem.W.codeIn K cd_moved "moved" = true)
    (k_moved : PySem.W.keepIn K (.ref f_moved) = true)
    (a__law_pen : PySem.W.nsIn K mainGlobals "_law_pen" = some (some (.ref f__law_pen)))
    (l__law_pen : K.lookup f__law_pen = some ⟨oc__law_pen, od__law_pen, .func (PySem.W.fnOf "_law_pen" "_law_pen" (defArgs s__law_pen) (defBody s__law_pen) (defScope s__law_pen) .none kV__law_pen dc__law_pen pm__law_pen an__law_pen cd__law_pen ct__law_pen), sl__law_pen⟩)
    (c__law_pen : PySem.W.codeIn K cd__law_pen "_law_pen" = true)
    (k__law_pen : PySem.W.keepIn K (.ref f__law_pen) = true)
    (a__law_draw : PySem.W.nsIn K mainGlobals "_law_draw" = some (some (.ref f__law_draw)))
    (l__law_draw : K.lookup f__law_draw = some ⟨oc__law_draw, od__law_draw, .func (PySem.W.fnOf "_law_draw" "_law_draw" (defArgs s__law_draw) (defBody s__law_draw) (defScope s__law_draw) .none kV__law_draw dc__law_draw pm__law_draw an__law_draw cd__law_draw ct__law_draw), sl__law_draw⟩)
    (c__law_draw : PySem.W.codeIn K cd__law_draw "_law_draw" = true)
    (k__law_draw : PySem.W.keepIn K (.ref f__law_draw) = true)
    (a__law_word : PySem.W.nsIn K mainGlobals "_law_word" = some (some (.ref f__law_word)))
    (l__law_word : K.lookup f__law_word = some ⟨oc__law_word, od__law_word, .func (PySem.W.fnOf "_law_word" "_law_word" (defArgs s__law_word) (defBody s__law_word) (defScope s__law_word) .none kV__law_word dc__law_word pm__law_word an__law_word cd__law_word ct__law_word), sl__law_word⟩)
    (c__law_word : PySem.W.codeIn K cd__law_word "_law_word" = true)
    (k__law_word : PySem.W.keepIn K (.ref f__law_word) = true)
    (a__law_heard : PySem.W.nsIn K mainGlobals "_law_heard" = some (some (.ref f__law_heard)))
    (l__law_heard : K.lookup f__law_heard = some ⟨oc__law_heard, od__law_heard, .func (PySem.W.fnOf "_law_heard" "_law_heard" (defArgs s__law_heard) (defBody s__law_heard) (defScope s__law_heard) .none kV__law_heard dc__law_heard pm__law_heard an__law_heard cd__law_heard ct__law_heard), sl__law_heard⟩)
    (c__law_heard : PySem.W.codeIn K cd__law_heard "_law_heard" = true)
    (k__law_heard : PySem.W.keepIn K (.ref f__law_heard) = true)
    (a__law_odd : PySem.W.nsIn K mainGlobals "_law_odd" = some (some (.ref f__law_odd)))
    (l__law_odd : K.lookup f__law_odd = some ⟨oc__law_odd, od__law_odd, .func (PySem.W.fnOf "_law_odd" "_law_odd" (defArgs s__law_odd) (defBody s__law_odd) (defScope s__law_odd) .none kV__law_odd dc__law_odd pm__law_odd an__law_odd cd__law_odd ct__law_odd), sl__law_odd⟩)
    (c__law_odd : PySem.W.codeIn K cd__law_odd "_law_odd" = true)
    (k__law_odd : PySem.W.keepIn K (.ref f__law_odd) = true)
    (a__law_whole : PySem.W.nsIn K mainGlobals "_law_whole" = some (some (.ref f__law_whole)))
    (l__law_whole : K.lookup f__law_whole = some ⟨oc__law_whole, od__law_whole, .func (PySem.W.fnOf "_law_whole" "_law_whole" (defArgs s__law_whole) (defBody s__law_whole) (defScope s__law_whole) .none kV__law_whole dc__law_whole pm__law_whole an__law_whole cd__law_whole ct__law_whole), sl__law_whole⟩)
    (c__law_whole : PySem.W.codeIn K cd__law_whole "_law_whole" = true)
    (k__law_whole : PySem.W.keepIn K (.ref f__law_whole) = true)
    (a__law_due : PySem.W.nsIn K mainGlobals "_law_due" = some (some (.ref f__law_due)))
    (l__law_due : K.lookup f__law_due = some ⟨oc__law_due, od__law_due, .func (PySem.W.fnOf "_law_due" "_law_due" (defArgs s__law_due) (defBody s__law_due) (defScope s__law_due) .none kV__law_due dc__law_due pm__law_due an__law_due cd__law_due ct__law_due), sl__law_due⟩)
    (c__law_due : PySem.W.codeIn K cd__law_due "_law_due" = true)
    (k__law_due : PySem.W.keepIn K (.ref f__law_due) = true)
    (a__law_made_right : PySem.W.nsIn K mainGlobals "_law_made_right" = some (some (.ref f__law_made_right)))
    (l__law_made_right : K.lookup f__law_made_right = some ⟨oc__law_made_right, od__law_made_right, .func (PySem.W.fnOf "_law_made_right" "_law_made_right" (defArgs s__law_made_right) (defBody s__law_made_right) (defScope s__law_made_right) .none kV__law_made_right dc__law_made_right pm__law_made_right an__law_made_right cd__law_made_right ct__law_made_right), sl__law_made_right⟩)
    (c__law_made_right : PySem.W.codeIn K cd__law_made_right "_law_made_right" = true)
    (k__law_made_right : PySem.W.keepIn K (.ref f__law_made_right) = true)
    (a__law_operations_right : PySem.W.nsIn K mainGlobals "_law_operations_right" = some (some (.ref f__law_operations_right)))
    (l__law_operations_right : K.lookup f__law_operations_right = some ⟨oc__law_operations_right, od__law_operations_right, .func (PySem.W.fnOf "_law_operations_right" "_law_operations_right" (defArgs s__law_operations_right) (defBody s__law_operations_right) (defScope s__law_operations_right) .none kV__law_operations_right dc__law_operations_right pm__law_operations_right an__law_operations_right cd__law_operations_right ct__law_operations_right), sl__law_operations_right⟩)
    (c__law_operations_right : PySem.W.codeIn K cd__law_operations_right "_law_operations_right" = true)
    (k__law_operations_right : PySem.W.keepIn K (.ref f__law_operations_right) = true)
    (a_law : PySem.W.nsIn K mainGlobals "law" = some (some (.ref f_law)))
    (l_law : K.lookup f_law = some ⟨oc_law, od_law, .func (PySem.W.fnOf "law" "law" (defArgs s_law) (defBody s_law) (defScope s_law) .none kV_law dc_law pm_law an_law cd_law ct_law), sl_law⟩)
    (c_law : PySem.W.codeIn K cd_law "law" = true)
    (k_law : PySem.W.keepIn K (.ref f_law) = true)
    (tyg : PySem.W.specialIn K (.builtin "object.__class__") "__get__" = some (some (.builtin "getset_descriptor.__get__")))
    (tyt : PySem.W.takesIn K (.builtin "object.__class__") = some true)
    (fnC : PySem.W.fnIn K f_Blend___call__ = true)
    (aWd : PySem.W.nsIn K mainGlobals "WIDTHS" = some (some (.ref aW)))
    (lWd : K.lookup aW = some ⟨.type "tuple", dd_W, .seq #[.int 8 tw0, .int 16 tw1, .int 32 tw2] n_W, sl_W⟩)
    (aB : PySem.W.nsIn K mainGlobals "BitError" = some (some (.ref CB)))
    (aE0 : PySem.W.nsIn K mainGlobals "InvalidWidth" = some (some (.ref e0)))
    (aE1 : PySem.W.nsIn K mainGlobals "InvalidLane" = some (some (.ref e1)))
    (aE2 : PySem.W.nsIn K mainGlobals "InvalidWord" = some (some (.ref e2)))
    (aE3 : PySem.W.nsIn K mainGlobals "InvalidShift" = some (some (.ref e3)))
    (aE4 : PySem.W.nsIn K mainGlobals "InvalidKind" = some (some (.ref e4)))
    (aE5 : PySem.W.nsIn K mainGlobals "InvalidLetters" = some (some (.ref e5)))
    (xs0 : PySem.W.subIn K (.ref e0) (.type "BaseException") = some true)
    (xv0 : PySem.W.findIn K (.ref e0) "value" = some none)
    (lkE0 : K.lookup e0 = some o_E0)
    (lkF0 : o_E0 = (excClassObj nm_E0 qq_E0 e0 N_E0 bs_E0 bm_E0 true sn_E0 sub_E0 ab_E0 col_E0 dd_E0 k0_E0 k1_E0 k2_E0 k3_E0 k5_E0 "ValueError.__new__"))
    (rvE0 : PySem.HandSPX.refsVE bm_E0 = true)
    (saE0 : PySem.W.findIn K (.ref e0) "__setattr__" = some (some (.builtin "object.__setattr__")))
    (tyE0 : PySem.W.typeIn K (.ref e0) = some (.type "type"))
    (kpE0 : PySem.W.keepIn K (.ref e0) = true)
    (inE0 : PySem.W.findIn K (.ref e0) "__init__" = some (some (.ref fI0)))
    (tiE0 : PySem.W.typeIn K (.ref fI0) = some (.type "function"))
    (lIK0 : K.lookup fI0 = some ⟨oc_I0, od_I0, .func (PySem.W.ksFn "__init__" "InvalidWidth.__init__" (defArgs s_I0) (defBody s_I0) (defScope s_I0) .none kV_I0 dc_I0 pm_I0 an_I0 (.ref cda0) ct_I0 ccell0), sl_I0⟩)
    (cIK0 : PySem.W.codeIn K (.ref cda0) "InvalidWidth.__init__" = true)
    (lcd0 : K.lookup cda0 = some ⟨ccl_I0, cdd_I0, .fields vs_I0, ccs_I0⟩)
    (vsI0 : vs_I0[2]? = some (.str file_I0 tf_I0))
    (fiI0 : ((l.prog.main.file : Str) == file_I0) = true)
    (lcc0 : K.lookup ccell0 = some ⟨cl_I0, cld_I0, .cell (some (.ref e0)), csl_I0⟩)
    (sbI0 : PySem.W.mroIn K e0 (.ref e0) = some true)
    (veI0 : PySem.W.mroIn K e0 (.type "ValueError") = some true)
    (suI0 : PySem.W.ks_superIn K e0 e0 "__init__" = some (some (.builtin "ValueError.__init__")))
    (xs2 : PySem.W.subIn K (.ref e2) (.type "BaseException") = some true)
    (xv2 : PySem.W.findIn K (.ref e2) "value" = some none)
    (lkE2 : K.lookup e2 = some o_E2)
    (lkF2 : o_E2 = (excClassObj nm_E2 qq_E2 e2 N_E2 bs_E2 bm_E2 true sn_E2 sub_E2 ab_E2 col_E2 dd_E2 k0_E2 k1_E2 k2_E2 k3_E2 k5_E2 "ValueError.__new__"))
    (rvE2 : PySem.HandSPX.refsVE bm_E2 = true)
    (saE2 : PySem.W.findIn K (.ref e2) "__setattr__" = some (some (.builtin "object.__setattr__")))
    (tyE2 : PySem.W.typeIn K (.ref e2) = some (.type "type"))
    (kpE2 : PySem.W.keepIn K (.ref e2) = true)
    (inE2 : PySem.W.findIn K (.ref e2) "__init__" = some (some (.ref fI2)))
    (tiE2 : PySem.W.typeIn K (.ref fI2) = some (.type "function"))
    (lIK2 : K.lookup fI2 = some ⟨oc_I2, od_I2, .func (PySem.W.ksFn "__init__" "InvalidWord.__init__" (defArgs s_I2) (defBody s_I2) (defScope s_I2) .none kV_I2 dc_I2 pm_I2 an_I2 (.ref cda2) ct_I2 ccell2), sl_I2⟩)
    (cIK2 : PySem.W.codeIn K (.ref cda2) "InvalidWord.__init__" = true)
    (lcd2 : K.lookup cda2 = some ⟨ccl_I2, cdd_I2, .fields vs_I2, ccs_I2⟩)
    (vsI2 : vs_I2[2]? = some (.str file_I2 tf_I2))
    (fiI2 : ((l.prog.main.file : Str) == file_I2) = true)
    (lcc2 : K.lookup ccell2 = some ⟨cl_I2, cld_I2, .cell (some (.ref e2)), csl_I2⟩)
    (sbI2 : PySem.W.mroIn K e2 (.ref e2) = some true)
    (veI2 : PySem.W.mroIn K e2 (.type "ValueError") = some true)
    (suI2 : PySem.W.ks_superIn K e2 e2 "__init__" = some (some (.builtin "ValueError.__init__")))
    (xs3 : PySem.W.subIn K (.ref e3) (.type "BaseException") = some true)
    (xv3 : PySem.W.findIn K (.ref e3) "value" = some none)
    (lkE3 : K.lookup e3 = some o_E3)
    (lkF3 : o_E3 = (excClassObj nm_E3 qq_E3 e3 N_E3 bs_E3 bm_E3 true sn_E3 sub_E3 ab_E3 col_E3 dd_E3 k0_E3 k1_E3 k2_E3 k3_E3 k5_E3 "ValueError.__new__"))
    (rvE3 : PySem.HandSPX.refsVE bm_E3 = true)
    (saE3 : PySem.W.findIn K (.ref e3) "__setattr__" = some (some (.builtin "object.__setattr__")))
    (tyE3 : PySem.W.typeIn K (.ref e3) = some (.type "type"))
    (kpE3 : PySem.W.keepIn K (.ref e3) = true)
    (inE3 : PySem.W.findIn K (.ref e3) "__init__" = some (some (.ref fI3)))
    (tiE3 : PySem.W.typeIn K (.ref fI3) = some (.type "function"))
    (lIK3 : K.lookup fI3 = some ⟨oc_I3, od_I3, .func (PySem.W.ksFn "__init__" "InvalidShift.__init__" (defArgs s_I3) (defBody s_I3) (defScope s_I3) .none kV_I3 dc_I3 pm_I3 an_I3 (.ref cda3) ct_I3 ccell3), sl_I3⟩)
    (cIK3 : PySem.W.codeIn K (.ref cda3) "InvalidShift.__init__" = true)
    (lcd3 : K.lookup cda3 = some ⟨ccl_I3, cdd_I3, .fields vs_I3, ccs_I3⟩)
    (vsI3 : vs_I3[2]? = some (.str file_I3 tf_I3))
    (fiI3 : ((l.prog.main.file : Str) == file_I3) = true)
    (lcc3 : K.lookup ccell3 = some ⟨cl_I3, cld_I3, .cell (some (.ref e3)), csl_I3⟩)
    (sbI3 : PySem.W.mroIn K e3 (.ref e3) = some true)
    (veI3 : PySem.W.mroIn K e3 (.type "ValueError") = some true)
    (suI3 : PySem.W.ks_superIn K e3 e3 "__init__" = some (some (.builtin "ValueError.__init__")))
    (tpI : (l.prog.main.scope.names.lookup ("super" : Str)).isSome = false)
    (opI : PySem.W.nsIn K cStatics "thirdparty.any" = some none)
    (kt0_0 : PySem.W.kitOne K (.ref e0) (.ref e0) = some true)
    (kt0_1 : PySem.W.kitOne K (.ref e0) (.ref e1) = some false)
    (kt0_2 : PySem.W.kitOne K (.ref e0) (.ref e2) = some false)
    (kt0_3 : PySem.W.kitOne K (.ref e0) (.ref e3) = some false)
    (kt0_4 : PySem.W.kitOne K (.ref e0) (.ref e4) = some false)
    (kt0_5 : PySem.W.kitOne K (.ref e0) (.ref e5) = some false)
    (ktv0 : PySem.W.kitOne K (.ref e0) (.type "ValueError") = some true)
    (exm0 : PySem.W.exmOne K (.ref e0) (.ref CB) = some true)
    (xg0 : PySem.W.findIn K (.ref e0) "__getattribute__" = some (some (.builtin "BaseException.__getattribute__")))
    (xk0 : PySem.W.findIn K (.ref e0) "__getattr__" = some none)
    (xd0 : PySem.W.hasDictIn K e0 = true)
    (xa0 : PySem.W.findIn K (.ref e0) "__class__" = some (some (.builtin "object.__class__")))
    (xm0 : PySem.W.mroIn K e0 (.type "object") = some true)
    (kt2_0 : PySem.W.kitOne K (.ref e2) (.ref e0) = some false)
    (kt2_1 : PySem.W.kitOne K (.ref e2) (.ref e1) = some false)
    (kt2_2 : PySem.W.kitOne K (.ref e2) (.ref e2) = some true)
    (kt2_3 : PySem.W.kitOne K (.ref e2) (.ref e3) = some false)
    (kt2_4 : PySem.W.kitOne K (.ref e2) (.ref e4) = some false)
    (kt2_5 : PySem.W.kitOne K (.ref e2) (.ref e5) = some false)
    (ktv2 : PySem.W.kitOne K (.ref e2) (.type "ValueError") = some true)
    (exm2 : PySem.W.exmOne K (.ref e2) (.ref CB) = some true)
    (xg2 : PySem.W.findIn K (.ref e2) "__getattribute__" = some (some (.builtin "BaseException.__getattribute__")))
    (xk2 : PySem.W.findIn K (.ref e2) "__getattr__" = some none)
    (xd2 : PySem.W.hasDictIn K e2 = true)
    (xa2 : PySem.W.findIn K (.ref e2) "__class__" = some (some (.builtin "object.__class__")))
    (xm2 : PySem.W.mroIn K e2 (.type "object") = some true)
    (kt3_0 : PySem.W.kitOne K (.ref e3) (.ref e0) = some false)
    (kt3_1 : PySem.W.kitOne K (.ref e3) (.ref e1) = some false)
    (kt3_2 : PySem.W.kitOne K (.ref e3) (.ref e2) = some false)
    (kt3_3 : PySem.W.kitOne K (.ref e3) (.ref e3) = some true)
    (kt3_4 : PySem.W.kitOne K (.ref e3) (.ref e4) = some false)
    (kt3_5 : PySem.W.kitOne K (.ref e3) (.ref e5) = some false)
    (ktv3 : PySem.W.kitOne K (.ref e3) (.type "ValueError") = some true)
    (exm3 : PySem.W.exmOne K (.ref e3) (.ref CB) = some true)
    (xg3 : PySem.W.findIn K (.ref e3) "__getattribute__" = some (some (.builtin "BaseException.__getattribute__")))
    (xk3 : PySem.W.findIn K (.ref e3) "__getattr__" = some none)
    (xd3 : PySem.W.hasDictIn K e3 = true)
    (xa3 : PySem.W.findIn K (.ref e3) "__class__" = some (some (.builtin "object.__class__")))
    (xm3 : PySem.W.mroIn K e3 (.type "object") = some true)
    (sfB : PySem.W.selfFirst K C_Blend = true)
    (sub_int : PySem.W.subIn K (.ref C_Blend) (.type "int") = some false)
    (sub_bool : PySem.W.subIn K (.ref C_Blend) (.type "bool") = some false)
    (sub_dict : PySem.W.subIn K (.ref C_Blend) (.type "dict") = some false)
    (rdB : PySem.W.readsIn K C_Blend (.type "type") = true)
    (gaB : PySem.W.specialIn K (.ref C_Blend) "__getattribute__" = some (some (.builtin "type.__getattribute__")))
    (d_and : PySem.W.findIn K (.ref C_Blend) (PySem.dunder Operator.BitAnd.info.2) = some (some (.ref f_Blend___and__)))
    (r_and : PySem.W.findIn K (.ref C_Blend) (dunderR Operator.BitAnd.info.2) = some (some (.ref f_Blend___rand__)))
    (d_or : PySem.W.findIn K (.ref C_Blend) (PySem.dunder Operator.BitOr.info.2) = some (some (.ref f_Blend___or__)))
    (r_or : PySem.W.findIn K (.ref C_Blend) (dunderR Operator.BitOr.info.2) = some (some (.ref f_Blend___ror__)))
    (d_xor : PySem.W.findIn K (.ref C_Blend) (PySem.dunder Operator.BitXor.info.2) = some (some (.ref f_Blend___xor__)))
    (r_xor : PySem.W.findIn K (.ref C_Blend) (dunderR Operator.BitXor.info.2) = some (some (.ref f_Blend___rxor__)))
    (d_shr : PySem.W.findIn K (.ref C_Blend) (PySem.dunder Operator.RShift.info.2) = some (some (.ref f_Blend___rshift__)))
    (r_shr : PySem.W.findIn K (.ref C_Blend) (dunderR Operator.RShift.info.2) = some rc_shr)
    (q_shr : rc_shr = none ∨ ∃ g : Addr, rc_shr = some (.ref g))
    (d_shl : PySem.W.findIn K (.ref C_Blend) (PySem.dunder Operator.LShift.info.2) = some (some (.ref f_Blend___lshift__)))
    (r_shl : PySem.W.findIn K (.ref C_Blend) (dunderR Operator.LShift.info.2) = some rc_shl)
    (q_shl : rc_shl = none ∨ ∃ g : Addr, rc_shl = some (.ref g))
    (tabO : PySem.W.tabIn K "_law_operations_right" = some (cO, PO))
    (ntbO : K.lookup PO = none)
    (tabM : PySem.W.tabIn K "_law_made_right" = some (cM, PM))
    (ntbM : K.lookup PM = none)
    (tabL : PySem.W.tabIn K "law" = some (cL, PL))
    (ntbL : K.lookup PL = none)
    (npom : PO ≠ PM)
    (npol : PO ≠ PL)
    (npml : PM ≠ PL)
    (z_int : PySem.W.nsIn K mainGlobals "int" = some none)
    (z_bool : PySem.W.nsIn K mainGlobals "bool" = some none)
    (z_abs : PySem.W.nsIn K mainGlobals "abs" = some none)
    (z_len : PySem.W.nsIn K mainGlobals "len" = some none)
    (z_list : PySem.W.nsIn K mainGlobals "list" = some none)
    (z_tuple : PySem.W.nsIn K mainGlobals "tuple" = some none)
    (z_str : PySem.W.nsIn K mainGlobals "str" = some none)
    (z_range : PySem.W.nsIn K mainGlobals "range" = some none)
    (z_isinstance : PySem.W.nsIn K mainGlobals "isinstance" = some none)
    (z_repr : PySem.W.nsIn K mainGlobals "repr" = some none)
    (z_ValueError : PySem.W.nsIn K mainGlobals "ValueError" = some none)
    (z_super : PySem.W.nsIn K mainGlobals "super" = some none)
    : ∃ (fd : FuncData) (cs : List (Addr × Addr)), cs.length = (["_law_operations_right", "_law_made_right", "law"] : List Str).length ∧ (∀ p ∈ (["_law_operations_right", "_law_made_right", "law"] : List Str).zip cs, PySem.W.tabIn K p.1 = some p.2) ∧ (∀ p ∈ cs, K.lookup p.2 = none) ∧ (∀ (s : Shared) (v : Value), BindsTo s fd ⟨[v], []⟩ [("_law_script", v)]) ∧ ∀ base : Heap, K.In base → base.Ns mainGlobals mg → (∀ p ∈ cs, LamX.TabB base mg p.1 p.2) → KG.FnG l.prog w K mg base CX0 13 fa fd ["_law_script"] (spLaw K cs) := by
  have e := hfa.symm.trans (PySem.W.mg_of X G a_law)
  cases e
  have F_is_integer := fun_mk (st := s_is_integer) l_is_integer c_is_integer k_is_integer
  have b_is_integer := F_is_integer.binds (ps := ["value"]) fun _ _ _ _ _ _ us hl => match us, hl with | [_], _ => rfl
  have F_need_width := fun_mk (st := s_need_width) l_need_width c_need_width k_need_width
  have b_need_width := F_need_width.binds (ps := ["width"]) fun _ _ _ _ _ _ us hl => match us, hl with | [_], _ => rfl
  have F_ones := fun_mk (st := s_ones) l_ones c_ones k_ones
  have b_ones := F_ones.binds (ps := ["width"]) fun _ _ _ _ _ _ us hl => match us, hl with | [_], _ => rfl
  have F_is_word := fun_mk (st := s_is_word) l_is_word c_is_word k_is_word
  have b_is_word := F_is_word.binds (ps := ["width", "value"]) fun _ _ _ _ _ _ us hl => match us, hl with | [_, _], _ => rfl
  have F_need_word := fun_mk (st := s_need_word) l_need_word c_need_word k_need_word
  have b_need_word := F_need_word.binds (ps := ["width", "value"]) fun _ _ _ _ _ _ us hl => match us, hl with | [_, _], _ => rfl
  have F_shifted := fun_mk (st := s_shifted) l_shifted c_shifted k_shifted
  have b_shifted := F_shifted.binds (ps := ["value", "width", "shift"]) fun _ _ _ _ _ _ us hl => match us, hl with | [_, _, _], _ => rfl
  have F_need_step := fun_mk (st := s_need_step) l_need_step c_need_step k_need_step
  have b_need_step := F_need_step.binds (ps := ["width", "step"]) fun _ _ _ _ _ _ us hl => match us, hl with | [_, _], _ => rfl
  have F_Blend_constant := fun_mk (st := s_Blend_constant) l_Blend_constant c_Blend_constant k_Blend_constant
  have b_Blend_constant := F_Blend_constant.binds (ps := ["cls", "width", "value"]) fun _ _ _ _ _ _ us hl => match us, hl with | [_, _, _], _ => rfl
  have F_Blend___call__ := fun_mk (st := s_Blend___call__) l_Blend___call__ c_Blend___call__ k_Blend___call__
  have b_Blend___call__ := F_Blend___call__.binds (ps := ["self", "value"]) fun _ _ _ _ _ _ us hl => match us, hl with | [_, _], _ => rfl
  have F_Blend___and__ := fun_mk (st := s_Blend___and__) l_Blend___and__ c_Blend___and__ k_Blend___and__
  have b_Blend___and__ := F_Blend___and__.binds (ps := ["self", "other"]) fun _ _ _ _ _ _ us hl => match us, hl with | [_, _], _ => rfl
  have F_Blend___rand__ := fun_mk (st := s_Blend___rand__) l_Blend___rand__ c_Blend___rand__ k_Blend___rand__
  have b_Blend___rand__ := F_Blend___rand__.binds (ps := ["self", "other"]) fun _ _ _ _ _ _ us hl => match us, hl with | [_, _], _ => rfl
  have F_Blend___or__ := fun_mk (st := s_Blend___or__) l_Blend___or__ c_Blend___or__ k_Blend___or__
  have b_Blend___or__ := F_Blend___or__.binds (ps := ["self", "other"]) fun _ _ _ _ _ _ us hl => match us, hl with | [_, _], _ => rfl
  have F_Blend___ror__ := fun_mk (st := s_Blend___ror__) l_Blend___ror__ c_Blend___ror__ k_Blend___ror__
  have b_Blend___ror__ := F_Blend___ror__.binds (ps := ["self", "other"]) fun _ _ _ _ _ _ us hl => match us, hl with | [_, _], _ => rfl
  have F_Blend___xor__ := fun_mk (st := s_Blend___xor__) l_Blend___xor__ c_Blend___xor__ k_Blend___xor__
  have b_Blend___xor__ := F_Blend___xor__.binds (ps := ["self", "other"]) fun _ _ _ _ _ _ us hl => match us, hl with | [_, _], _ => rfl
  have F_Blend___rxor__ := fun_mk (st := s_Blend___rxor__) l_Blend___rxor__ c_Blend___rxor__ k_Blend___rxor__
  have b_Blend___rxor__ := F_Blend___rxor__.binds (ps := ["self", "other"]) fun _ _ _ _ _ _ us hl => match us, hl with | [_, _], _ => rfl
  have F_Blend___lshift__ := fun_mk (st := s_Blend___lshift__) l_Blend___lshift__ c_Blend___lshift__ k_Blend___lshift__
  have b_Blend___lshift__ := F_Blend___lshift__.binds (ps := ["self", "other"]) fun _ _ _ _ _ _ us hl => match us, hl with | [_, _], _ => rfl
  have F_Blend___rshift__ := fun_mk (st := s_Blend___rshift__) l_Blend___rshift__ c_Blend___rshift__ k_Blend___rshift__
  have b_Blend___rshift__ := F_Blend___rshift__.binds (ps := ["self", "other"]) fun _ _ _ _ _ _ us hl => match us, hl with | [_, _], _ => rfl
  have F_Blend___repr__ := fun_mk (st := s_Blend___repr__) l_Blend___repr__ c_Blend___repr__ k_Blend___repr__
  have b_Blend___repr__ := F_Blend___repr__.binds (ps := ["self"]) fun _ _ _ _ _ _ us hl => match us, hl with | [_], _ => rfl
  have F_moved := fun_mk (st := s_moved) l_moved c_moved k_moved
  have b_moved := F_moved.binds (ps := ["blend", "step"]) fun _ _ _ _ _ _ us hl => match us, hl with | [_, _], _ => rfl
  have F__law_pen := fun_mk (st := s__law_pen) l__law_pen c__law_pen k__law_pen
  have b__law_pen := F__law_pen.binds (ps := ["_law_script"]) fun _ _ _ _ _ _ us hl => match us, hl with | [_], _ => rfl
  have F__law_draw := fun_mk (st := s__law_draw) l__law_draw c__law_draw k__law_draw
  have b__law_draw := F__law_draw.binds (ps := ["_law_pen_here", "_law_many"]) fun _ _ _ _ _ _ us hl => match us, hl with | [_, _], _ => rfl
  have F__law_word := fun_mk (st := s__law_word) l__law_word c__law_word k__law_word
  have b__law_word := F__law_word.binds (ps := ["_law_pen_here", "_law_width"]) fun _ _ _ _ _ _ us hl => match us, hl with | [_, _], _ => rfl
  have F__law_heard := fun_mk (st := s__law_heard) l__law_heard c__law_heard k__law_heard
  have b__law_heard := F__law_heard.binds (ps := ["_law_ask"]) fun _ _ _ _ _ _ us hl => match us, hl with | [_], _ => rfl
  have F__law_odd := fun_mk (st := s__law_odd) l__law_odd c__law_odd k__law_odd
  have b__law_odd := F__law_odd.binds (ps := ["_law_pen_here", "_law_width"]) fun _ _ _ _ _ _ us hl => match us, hl with | [_, _], _ => rfl
  have F__law_whole := fun_mk (st := s__law_whole) l__law_whole c__law_whole k__law_whole
  have b__law_whole := F__law_whole.binds (ps := ["_law_thing"]) fun _ _ _ _ _ _ us hl => match us, hl with | [_], _ => rfl
  have F__law_due := fun_mk (st := s__law_due) l__law_due c__law_due k__law_due
  have b__law_due := F__law_due.binds (ps := ["_law_numbers", "_law_marks"]) fun _ _ _ _ _ _ us hl => match us, hl with | [_, _], _ => rfl
  have F__law_made_right := fun_mk (st := s__law_made_right) l__law_made_right c__law_made_right k__law_made_right
  have b__law_made_right := F__law_made_right.binds (ps := ["_law_width", "_law_numbers"]) fun _ _ _ _ _ _ us hl => match us, hl with | [_, _], _ => rfl
  have F__law_operations_right := fun_mk (st := s__law_operations_right) l__law_operations_right c__law_operations_right k__law_operations_right
  have b__law_operations_right := F__law_operations_right.binds (ps := ["_law_blend", "_law_thing"]) fun _ _ _ _ _ _ us hl => match us, hl with | [_, _], _ => rfl
  have F_law := fun_mk (st := s_law) l_law c_law k_law
  have b_law := F_law.binds (ps := ["_law_script"]) fun _ _ _ _ _ _ us hl => match us, hl with | [_], _ => rfl

  have cB : Cls K C_Blend := ⟨pg_Blend, hd_Blend, po_Blend, sa_Blend⟩
  have T0 : Txt mg := {
    z_int := PySem.W.mg_none_of X G z_int, z_bool := PySem.W.mg_none_of X G z_bool, z_abs := PySem.W.mg_none_of X G z_abs, z_len := PySem.W.mg_none_of X G z_len, z_list := PySem.W.mg_none_of X G z_list, z_tuple := PySem.W.mg_none_of X G z_tuple, z_str := PySem.W.mg_none_of X G z_str
    z_range := PySem.W.mg_none_of X G z_range, z_isinstance := PySem.W.mg_none_of X G z_isinstance, z_repr := PySem.W.mg_none_of X G z_repr, z_ValueError := PySem.W.mg_none_of X G z_ValueError }
  have T : TxtB K mg C_Blend aW := {
    toTxt := T0, cl := cB, n_width := n_Blend_width, n_shift := n_Blend_shift, n_keep := n_Blend_keep, n_flip := n_Blend_flip, mg_Blend := PySem.W.mg_of X G aC_Blend, mg_WIDTHS := PySem.W.mg_of X G aWd
    widths := sqK lWd (by simp) (.cons ⟨_, rfl⟩ (.cons ⟨_, rfl⟩ (.cons ⟨_, rfl⟩ .nil))) }
  have TE : TxtE K mg CB (errsOf e0 e1 e2 e3 e4 e5) := {
    toTxt := T0, mg_BitError := PySem.W.mg_of X G aB, mg_InvalidWidth := PySem.W.mg_of X G aE0, mg_InvalidLane := PySem.W.mg_of X G aE1, mg_InvalidWord := PySem.W.mg_of X G aE2, mg_InvalidShift := PySem.W.mg_of X G aE3
    mg_InvalidKind := PySem.W.mg_of X G aE4, mg_InvalidLetters := PySem.W.mg_of X G aE5 }
  have EA0 : ErrAt K CB (errsOf e0 e1 e2 e3 e4 e5) 0 := {
    lt := by decide, bit := exm0, exc := ⟨xg0, xk0, xs0, xd0, xa0, tyg, tyt, xm0⟩, xf := ⟨xg0, xk0, xs0, xd0⟩, nof := xv0, ve := ktv0
    kit := fun j hj => by
      match j, hj with
      | 0, _ => exact kt0_0
      | 1, _ => exact kt0_1
      | 2, _ => exact kt0_2
      | 3, _ => exact kt0_3
      | 4, _ => exact kt0_4
      | 5, _ => exact kt0_5
      | j + 6, h => exact absurd h (by omega) }

  have EA2 : ErrAt K CB (errsOf e0 e1 e2 e3 e4 e5) 2 := {
    lt := by decide, bit := exm2, exc := ⟨xg2, xk2, xs2, xd2, xa2, tyg, tyt, xm2⟩, xf := ⟨xg2, xk2, xs2, xd2⟩, nof := xv2, ve := ktv2
    kit := fun j hj => by
      match j, hj with
      | 0, _ => exact kt2_0
      | 1, _ => exact kt2_1
      | 2, _ => exact kt2_2
      | 3, _ => exact kt2_3
      | 4, _ => exact kt2_4
      | 5, _ => exact kt2_5
      | j + 6, h => exact absurd h (by omega) }

  have EA3 : ErrAt K CB (errsOf e0 e1 e2 e3 e4 e5) 3 := {
    lt := by decide, bit := exm3, exc := ⟨xg3, xk3, xs3, xd3, xa3, tyg, tyt, xm3⟩, xf := ⟨xg3, xk3, xs3, xd3⟩, nof := xv3, ve := ktv3
    kit := fun j hj => by
      match j, hj with
      | 0, _ => exact kt3_0
      | 1, _ => exact kt3_1
      | 2, _ => exact kt3_2
      | 3, _ => exact kt3_3
      | 4, _ => exact kt3_4
      | 5, _ => exact kt3_5
      | j + 6, h => exact absurd h (by omega) }

  have OX0 : OexC K e0 := ⟨⟨nm_E0, qq_E0, N_E0, bs_E0, bm_E0, sn_E0, sub_E0, ab_E0, col_E0, dd_E0, k0_E0, k1_E0, k2_E0, k3_E0, k5_E0, lkE0.trans (congrArg some lkF0), rvE0⟩, saE0, xs0, tyE0, kpE0⟩
  have SF0 : KX.SupFn K l.prog fI0 (PySem.W.ksFn "__init__" "InvalidWidth.__init__" (defArgs s_I0) (defBody s_I0) (defScope s_I0) .none kV_I0 dc_I0 pm_I0 an_I0 (.ref cda0) ct_I0 ccell0) e0 "value" "value" := {
    ex := ⟨"InvalidWidth.__init__", defArgs s_I0, defScope s_I0, .none, kV_I0, dc_I0, pm_I0, ct_I0, oc_I0, ccl_I0, cl_I0, an_I0, od_I0, cdd_I0, cld_I0, sl_I0, ccs_I0, csl_I0, cda0, ccell0, vs_I0, file_I0, tf_I0, _, _, _, _, _, _, _, _, _, _, _, _, _, _, rfl, lIK0, cIK0, lcd0, vsI0, fiI0, lcc0, rfl, rfl, rfl, rfl, rfl, by decide +kernel, free_only (by decide +kernel), rfl, rfl, rfl, rfl, fun en => rfl⟩
    top := tpI, nv := ⟨by decide, by decide, by decide⟩, opq := opI, sub := sbI0, ve := veI0, sup := suI0, nof := xv0 }

  have OX2 : OexC K e2 := ⟨⟨nm_E2, qq_E2, N_E2, bs_E2, bm_E2, sn_E2, sub_E2, ab_E2, col_E2, dd_E2, k0_E2, k1_E2, k2_E2, k3_E2, k5_E2, lkE2.trans (congrArg some lkF2), rvE2⟩, saE2, xs2, tyE2, kpE2⟩
  have SF2 : KX.SupFn K l.prog fI2 (PySem.W.ksFn "__init__" "InvalidWord.__init__" (defArgs s_I2) (defBody s_I2) (defScope s_I2) .none kV_I2 dc_I2 pm_I2 an_I2 (.ref cda2) ct_I2 ccell2) e2 "value" "value" := {
    ex := ⟨"InvalidWord.__init__", defArgs s_I2, defScope s_I2, .none, kV_I2, dc_I2, pm_I2, ct_I2, oc_I2, ccl_I2, cl_I2, an_I2, od_I2, cdd_I2, cld_I2, sl_I2, ccs_I2, csl_I2, cda2, ccell2, vs_I2, file_I2, tf_I2, _, _, _, _, _, _, _, _, _, _, _, _, _, _, rfl, lIK2, cIK2, lcd2, vsI2, fiI2, lcc2, rfl, rfl, rfl, rfl, rfl, by decide +kernel, free_only (by decide +kernel), rfl, rfl, rfl, rfl, fun en => rfl⟩
    top := tpI, nv := ⟨by decide, by decide, by decide⟩, opq := opI, sub := sbI2, ve := veI2, sup := suI2, nof := xv2 }

  have OX3 : OexC K e3 := ⟨⟨nm_E3, qq_E3, N_E3, bs_E3, bm_E3, sn_E3, sub_E3, ab_E3, col_E3, dd_E3, k0_E3, k1_E3, k2_E3, k3_E3, k5_E3, lkE3.trans (congrArg some lkF3), rvE3⟩, saE3, xs3, tyE3, kpE3⟩
  have SF3 : KX.SupFn K l.prog fI3 (PySem.W.ksFn "__init__" "InvalidShift.__init__" (defArgs s_I3) (defBody s_I3) (defScope s_I3) .none kV_I3 dc_I3 pm_I3 an_I3 (.ref cda3) ct_I3 ccell3) e3 "value" "value" := {
    ex := ⟨"InvalidShift.__init__", defArgs s_I3, defScope s_I3, .none, kV_I3, dc_I3, pm_I3, ct_I3, oc_I3, ccl_I3, cl_I3, an_I3, od_I3, cdd_I3, cld_I3, sl_I3, ccs_I3, csl_I3, cda3, ccell3, vs_I3, file_I3, tf_I3, _, _, _, _, _, _, _, _, _, _, _, _, _, _, rfl, lIK3, cIK3, lcd3, vsI3, fiI3, lcc3, rfl, rfl, rfl, rfl, rfl, by decide +kernel, free_only (by decide +kernel), rfl, rfl, rfl, rfl, fun en => rfl⟩
    top := tpI, nv := ⟨by decide, by decide, by decide⟩, opq := opI, sub := sbI3, ve := veI3, sup := suI3, nof := xv3 }

  have eC : cd__law_operations_right = .ref cO := code_of tabO a__law_operations_right l__law_operations_right rfl
  subst eC
  have eN : cd__law_made_right = .ref cM := code_of tabM a__law_made_right l__law_made_right rfl
  subst eN
  have eL : cd_law = .ref cL := code_of tabL a_law l_law rfl
  subst eL
  refine ⟨PySem.W.fnOf "law" "law" (defArgs s_law) (defBody s_law) (defScope s_law) .none kV_law dc_law pm_law an_law (.ref cL) ct_law, [(cO, PO), (cM, PM), (cL, PL)], rfl, fun p hp => ?_, fun p hp => ?_, fun s v => .of_eq rfl, fun base _ _ tb => ?_⟩
  · rcases List.mem_cons.mp (show p ∈ [(("_law_operations_right" : Str), (cO, PO)), (("_law_made_right" : Str), (cM, PM)), (("law" : Str), (cL, PL))] from hp) with rfl | hp
    · exact tabO
    rcases List.mem_cons.mp hp with rfl | hp
    · exact tabM
    · rw [List.mem_singleton.mp hp]
      exact tabL
  · rcases List.mem_cons.mp hp with rfl | hp
    · exact ntbO
    rcases List.mem_cons.mp hp with rfl | hp
    · exact ntbM
    · rw [List.mem_singleton.mp hp]
      exact ntbL
  have em0 : KX.ErrMk l.prog w K mg base e0 "InvalidWidth" "value" := ⟨fI0, _, "value", OX0, inE0, tiE0, KX.sup_ok SF0 OX0 (PySem.W.mg_none_of X G z_super) (by decide +kernel), .all fun us hl => (match us, hl with | [_, _], _ => rfl), PySem.W.mg_of X G aE0⟩

  have em2 : KX.ErrMk l.prog w K mg base e2 "InvalidWord" "value" := ⟨fI2, _, "value", OX2, inE2, tiE2, KX.sup_ok SF2 OX2 (PySem.W.mg_none_of X G z_super) (by decide +kernel), .all fun us hl => (match us, hl with | [_, _], _ => rfl), PySem.W.mg_of X G aE2⟩

  have em3 : KX.ErrMk l.prog w K mg base e3 "InvalidShift" "value" := ⟨fI3, _, "value", OX3, inE3, tiE3, KX.sup_ok SF3 OX3 (PySem.W.mg_none_of X G z_super) (by decide +kernel), .all fun us hl => (match us, hl with | [_, _], _ => rfl), PySem.W.mg_of X G aE3⟩

  have FD : FunD K "__init__" "Blend.__init__" (defArgs s_Blend___init__) (defBody s_Blend___init__) (defScope s_Blend___init__) [.int 0, .non, .int 0] [] f_Blend___init__ _ := ⟨⟨_, _, _, _, _, _, _, _, _, _, rfl, l_Blend___init__, c_Blend___init__, .inr ⟨by simp, DT_Blend___init__, _, [.int 0 tk_Blend___init___0, .none, .int 0 tk_Blend___init___2], _, rfl, dt_Blend___init__, rfl, .cons ⟨_, rfl⟩ (.cons rfl (.cons ⟨_, rfl⟩ .nil))⟩, .inl rfl⟩, k_Blend___init__⟩
  obtain ⟨ds5, vd5, bd5⟩ := FD.binds1 (ps := ["self", "width", "shift", "keep", "flip"]) 5 3 (by simp) rfl fun T kV doc pm an cdv ct us its hu hi => match us, its, hu, hi with
    | [_, _, _, _, _], [_, _, _], _, _ => ⟨_, rfl, rfl⟩
  obtain rfl : ds5 = [] := by
    cases vd5
    rfl
  have cI : KB.Callee l.prog w K mg base CX0 1 "is_integer" ["value"] spInt := ⟨⟨_, _, ok_int F_is_integer T0, PySem.W.mg_of X G a_is_integer, k_is_integer, b_is_integer⟩⟩
  have cN' : KB.Callee l.prog w K mg base (L2.CX l.prog w) 3 "need_width" ["width"] (spNW e0) := ⟨⟨_, _, ok_nw F_need_width T em0 cI, PySem.W.mg_of X G a_need_width, k_need_width, b_need_width⟩⟩
  have cO' : KB.Callee l.prog w K mg base CX0 1 "ones" ["width"] spOnes := ⟨⟨_, _, ok_ones F_ones, PySem.W.mg_of X G a_ones, k_ones, b_ones⟩⟩
  have cS : KB.Callee l.prog w K mg base CX0 2 "shifted" ["value", "width", "shift"] spSh := ⟨⟨_, _, ok_sh F_shifted cO', PySem.W.mg_of X G a_shifted, k_shifted, b_shifted⟩⟩
  have cW : KB.Callee l.prog w K mg base CX0 4 "is_word" ["width", "value"] spIsWord := ⟨⟨_, _, ok_isword (C := C_Blend) (aW := aW) F_is_word cN' cI cO', PySem.W.mg_of X G a_is_word, k_is_word, b_is_word⟩⟩
  have cD : KB.Callee l.prog w K mg base (L2.CX l.prog w) 5 "need_word" ["width", "value"] (spNeed e2) := ⟨⟨_, _, ok_need F_need_word em2 cW, PySem.W.mg_of X G a_need_word, k_need_word, b_need_word⟩⟩
  have okb : FnOk l.prog w K mg base (L2.CX l.prog w) 6 f_Blend___init__ _ ["self", "width", "shift", "keep", "flip"] (spBlend C_Blend e0 e3 e2) := ok_blend FD T em3 cN' cI cD cO' cS
  have mkB : Mk K C_Blend f_Blend___init__ := ⟨mk_Blend, a_Blend___init__, i_Blend___init__, kc_Blend⟩
  have ci : CalleeI l.prog w K mg base (L2.CX l.prog w) 6 C_Blend "Blend" ["self", "width", "shift", "keep", "flip"] (spBlend C_Blend e0 e3 e2) := ⟨⟨_, _, okb, mkB, T.mg_Blend, bd5⟩⟩
  have oc : KC.OwnC l.prog w K mg base (L2.CX l.prog w) 6 C_Blend ["self", "value"] (spBCall C_Blend e2) := ⟨⟨_, _, a_Blend___call__, i_Blend___call__, fnC, ok_bcall F_Blend___call__ T cD cS, b_Blend___call__⟩⟩
  have cSt : KB.Callee l.prog w K mg base (L2.CX l.prog w) 3 "need_step" ["width", "step"] (spStepN e3) := ⟨⟨_, _, ok_step F_need_step em3 cI, PySem.W.mg_of X G a_need_step, k_need_step, b_need_step⟩⟩
  have cM' : KB.Callee l.prog w K mg base CX0 8 "moved" ["blend", "step"] (spMoved C_Blend) := ⟨⟨_, _, ok_moved F_moved T cS ci, PySem.W.mg_of X G a_moved, k_moved, b_moved⟩⟩
  have orp : OwnM l.prog w K mg base 1 C_Blend "__repr__" ["self"] (spBRepr C_Blend) := ⟨⟨_, _, a_Blend___repr__, i_Blend___repr__, ok_brepr F_Blend___repr__ T, b_Blend___repr__⟩⟩
  have oA : KR.OwnBD l.prog w K mg base (L2.CX l.prog w) 8 C_Blend .BitAnd ["self", "other"] (spBin C_Blend e2 kAnd fAnd) := ⟨⟨_, _, _, by decide, sfB, d_and, i_Blend___and__, r_and, .inr ⟨_, rfl⟩, ok_andB F_Blend___and__ T cD ci, b_Blend___and__⟩⟩
  have oO : KR.OwnBD l.prog w K mg base (L2.CX l.prog w) 8 C_Blend .BitOr ["self", "other"] (spBin C_Blend e2 kOr fOr) := ⟨⟨_, _, _, by decide, sfB, d_or, i_Blend___or__, r_or, .inr ⟨_, rfl⟩, ok_or F_Blend___or__ T cD cO' ci, b_Blend___or__⟩⟩
  have oX : KR.OwnBD l.prog w K mg base (L2.CX l.prog w) 8 C_Blend .BitXor ["self", "other"] (spBin C_Blend e2 kXor fXor) := ⟨⟨_, _, _, by decide, sfB, d_xor, i_Blend___xor__, r_xor, .inr ⟨_, rfl⟩, ok_xor F_Blend___xor__ T cD ci, b_Blend___xor__⟩⟩
  have rA : KR.OwnBR l.prog w K mg base (L2.CX l.prog w) 8 C_Blend .BitAnd ["self", "other"] (spBin C_Blend e2 kAnd fAnd) := ⟨⟨_, _, _, by decide, sfB, d_and, i_Blend___rand__, r_and, sub_int, sub_bool, sub_dict, ok_rand F_Blend___rand__ T cD ci, b_Blend___rand__⟩⟩
  have rO : KR.OwnBR l.prog w K mg base (L2.CX l.prog w) 8 C_Blend .BitOr ["self", "other"] (spBin C_Blend e2 kOr fOr) := ⟨⟨_, _, _, by decide, sfB, d_or, i_Blend___ror__, r_or, sub_int, sub_bool, sub_dict, ok_ror F_Blend___ror__ T cD cO' ci, b_Blend___ror__⟩⟩
  have rX : KR.OwnBR l.prog w K mg base (L2.CX l.prog w) 8 C_Blend .BitXor ["self", "other"] (spBin C_Blend e2 kXor fXor) := ⟨⟨_, _, _, by decide, sfB, d_xor, i_Blend___rxor__, r_xor, sub_int, sub_bool, sub_dict, ok_rxor F_Blend___rxor__ T cD ci, b_Blend___rxor__⟩⟩
  have oR : KR.OwnBD l.prog w K mg base (L2.CX l.prog w) 9 C_Blend .RShift ["self", "other"] (spShr C_Blend e3) := ⟨⟨_, _, _, by decide, sfB, d_shr, i_Blend___rshift__, r_shr, q_shr, ok_shr F_Blend___rshift__ T cSt cM', b_Blend___rshift__⟩⟩
  have oL : KR.OwnBD l.prog w K mg base (L2.CX l.prog w) 9 C_Blend .LShift ["self", "other"] (spShl C_Blend e3) := ⟨⟨_, _, _, by decide, sfB, d_shl, i_Blend___lshift__, r_shl, q_shl, ok_shl F_Blend___lshift__ T cSt cM', b_Blend___lshift__⟩⟩
  have cmC : KP.CalleeC l.prog w K mg base (L2.CX l.prog w) 8 C_Blend "constant" (spConst C_Blend e0 e2) := ⟨⟨_, p_Blend_constant, f_Blend_constant, ⟨rdB, gaB⟩, ⟨a_Blend_constant, ⟨_, rc_Blend_constant⟩, fi_Blend_constant⟩, fnR_of (ok_const F_Blend_constant T cN' cD ci) b_Blend_constant⟩⟩
  have cd : KB.Callee l.prog w K mg base CX0 1 "_law_draw" ["_law_pen_here", "_law_many"] spDraw := ⟨⟨_, _, ok_draw F__law_draw T0, PySem.W.mg_of X G a__law_draw, k__law_draw, b__law_draw⟩⟩
  have cp : KB.Callee l.prog w K mg base CX0 1 "_law_pen" ["_law_script"] (spPen K) := ⟨⟨_, _, ok_pen F__law_pen T0, PySem.W.mg_of X G a__law_pen, k__law_pen, b__law_pen⟩⟩
  have cw : KB.Callee l.prog w K mg base CX0 2 "_law_word" ["_law_pen_here", "_law_width"] spWord := ⟨⟨_, _, ok_word F__law_word T0 cd, PySem.W.mg_of X G a__law_word, k__law_word, b__law_word⟩⟩
  have cwh : KB.Callee l.prog w K mg base CX0 1 "_law_whole" ["_law_thing"] spWhole := ⟨⟨_, _, ok_whole F__law_whole T0, PySem.W.mg_of X G a__law_whole, k__law_whole, b__law_whole⟩⟩
  have co : KB.Callee l.prog w K mg base CX0 3 "_law_odd" ["_law_pen_here", "_law_width"] spOdds := ⟨⟨_, _, ok_odd F__law_odd T0 cw, PySem.W.mg_of X G a__law_odd, k__law_odd, b__law_odd⟩⟩
  have hc : HeardC K mg := ⟨⟨f__law_heard, _, _, _, _, _, _, _, _, _, PySem.W.mg_of X G a__law_heard, k__law_heard, l__law_heard, c__law_heard, b__law_heard⟩⟩
  have cdu : KG.CalleeG l.prog w K mg base CX0 3 "_law_due" ["_law_numbers", "_law_marks"] spDue := ⟨⟨_, _, ok_due F__law_due T0 cwh, PySem.W.mg_of X G a__law_due, k__law_due, b__law_due⟩⟩
  have ap : Apart PO PM PL := ⟨npom, npol, npml⟩
  have cOp : KG.CalleeG l.prog w K mg base CX0 12 "_law_operations_right" ["_law_blend", "_law_thing"] (spOps C_Blend (TT3 PO PM PL)) := ⟨⟨_, _, ok_ops (c := errsOf e0 e1 e2 e3 e4 e5) l__law_operations_right c__law_operations_right T TE EA2 EA3 hc ap (tb (cO, PO) (List.mem_cons_self ..)) orp cwh oA oO oX rA rO rX oL oR oc cmC, PySem.W.mg_of X G a__law_operations_right, k__law_operations_right, b__law_operations_right⟩⟩
  have cMa : KG.CalleeG l.prog w K mg base CX0 12 "_law_made_right" ["_law_width", "_law_numbers"] (spMade (TT3 PO PM PL)) := ⟨⟨_, _, ok_made (c := errsOf e0 e1 e2 e3 e4 e5) l__law_made_right c__law_made_right T TE EA0 EA2 EA3 hc ap (tb (cM, PM) (List.mem_cons_of_mem _ (List.mem_cons_self ..))) orp cdu ci, PySem.W.mg_of X G a__law_made_right, k__law_made_right, b__law_made_right⟩⟩
  exact ok_law (c := errsOf e0 e1 e2 e3 e4 e5) l_law c_law T TE EA0 hc ap (tb (cL, PL) (List.mem_cons_of_mem _ (List.mem_cons_of_mem _ (List.mem_cons_self ..)))) orp cOp cMa cd cw co cp ci cmC
end K05
open PySem PySem.W PyProof.Rows
set_option maxRecDepth 100000 in
set_option maxHeartbeats 0 in
theorem PySem.Challenge.cw_keptbits_k05_what_blends_refuse_holds : PySem.Challenge.rw_keptbits_k05_what_blends_refuse.Holds := by
  w_on; o_law; k_head; (case hw => w_witness2)
  k_fill
  refine KL.walkGT (l := PySem.Challenge.rw_keptbits_k05_what_blends_refuse) (n := 63) (k := 13) (x := "_law_script") (names := ["_law_operations_right", "_law_made_right", "law"]) (sp := fun w cs => K05.spLaw _ cs) rfl (by decide) rfl ⟨rfl, by decide, by decide⟩ ?R (fun w h Y => PySem.W.km_in_of Y) ?F (fun _ _ a cs ns hl hT hS => ⟨a, ns, rfl, hS, hl, hT, fun _ => rfl⟩)
  case R => exact rfl
  case F =>
    intro w mg fa h KX G hmg
    refine' K05.all_mk KX G hmg ?aC_Blend ?pg_Blend ?hd_Blend ?po_Blend ?sa_Blend ?mk_Blend ?kc_Blend ?n_Blend_width ?n_Blend_shift ?n_Blend_keep ?n_Blend_flip ?a_is_integer ?l_is_integer ?c_is_integer ?k_is_integer ?a_need_width ?l_need_width ?c_need_width ?k_need_width ?a_ones ?l_ones ?c_ones ?k_ones ?a_is_word ?l_is_word ?c_is_word ?k_is_word ?a_need_word ?l_need_word ?c_need_word ?k_need_word ?a_shifted ?l_shifted ?c_shifted ?k_shifted ?a_need_step ?l_need_step ?c_need_step ?k_need_step ?a_Blend___init__ ?i_Blend___init__ ?l_Blend___init__ ?dt_Blend___init__ ?c_Blend___init__ ?k_Blend___init__ ?a_Blend_constant ?rc_Blend_constant ?fi_Blend_constant ?l_Blend_constant ?c_Blend_constant ?k_Blend_constant ?a_Blend___call__ ?i_Blend___call__ ?l_Blend___call__ ?c_Blend___call__ ?k_Blend___call__ ?a_Blend___and__ ?i_Blend___and__ ?l_Blend___and__ ?c_Blend___and__ ?k_Blend___and__ ?a_Blend___rand__ ?i_Blend___rand__ ?l_Blend___rand__ ?c_Blend___rand__ ?k_Blend___rand__ ?a_Blend___or__ ?i_Blend___or__ ?l_Blend___or__ ?c_Blend___or__ ?k_Blend___or__ ?a_Blend___ror__ ?i_Blend___ror__ ?l_Blend___ror__ ?c_Blend___ror__ ?k_Blend___ror__ ?a_Blend___xor__ ?i_Blend___xor__ ?l_Blend___xor__ ?c_Blend___xor__ ?k_Blend___xor__ ?a_Blend___rxor__ ?i_Blend___rxor__ ?l_Blend___rxor__ ?c_Blend___rxor__ ?k_Blend___rxor__ ?a_Blend___lshift__ ?i_Blend___lshift__ ?l_Blend___lshift__ ?c_Blend___lshift__ ?k_Blend___lshift__ ?a_Blend___rshift__ ?i_Blend___rshift__ ?l_Blend___rshift__ ?c_Blend___rshift__ ?k_Blend___rshift__ ?a_Blend___repr__ ?i_Blend___repr__ ?l_Blend___repr__ ?c_Blend___repr__ ?k_Blend___repr__ ?a_moved ?l_moved ?c_moved ?k_moved ?a__law_pen ?l__law_pen ?c__law_pen ?k__law_pen ?a__law_draw ?l__law_draw ?c__law_draw ?k__law_draw ?a__law_word ?l__law_word ?c__law_word ?k__law_word ?a__law_heard ?l__law_heard ?c__law_heard ?k__law_heard ?a__law_odd ?l__law_odd ?c__law_odd ?k__law_odd ?a__law_whole ?l__law_whole ?c__law_whole ?k__law_whole ?a__law_due ?l__law_due ?c__law_due ?k__law_due ?a__law_made_right ?l__law_made_right ?c__law_made_right ?k__law_made_right ?a__law_operations_right ?l__law_operations_right ?c__law_operations_right ?k__law_operations_right ?a_law ?l_law ?c_law ?k_law ?tyg ?tyt ?fnC ?aWd ?lWd ?aB ?aE0 ?aE1 ?aE2 ?aE3 ?aE4 ?aE5 ?xs0 ?xv0 ?lkE0 ?lkF0 ?rvE0 ?saE0 ?tyE0 ?kpE0 ?inE0 ?tiE0 ?lIK0 ?cIK0 ?lcd0 ?vsI0 ?fiI0 ?lcc0 ?sbI0 ?veI0 ?suI0 ?xs2 ?xv2 ?lkE2 ?lkF2 ?rvE2 ?saE2 ?tyE2 ?kpE2 ?inE2 ?tiE2 ?lIK2 ?cIK2 ?lcd2 ?vsI2 ?fiI2 ?lcc2 ?sbI2 ?veI2 ?suI2 ?xs3 ?xv3 ?lkE3 ?lkF3 ?rvE3 ?saE3 ?tyE3 ?kpE3 ?inE3 ?tiE3 ?lIK3 ?cIK3 ?lcd3 ?vsI3 ?fiI3 ?lcc3 ?sbI3 ?veI3 ?suI3 ?tpI ?opI ?kt0_0 ?kt0_1 ?kt0_2 ?kt0_3 ?kt0_4 ?kt0_5 ?ktv0 ?exm0 ?xg0 ?xk0 ?xd0 ?xa0 ?xm0 ?kt2_0 ?kt2_1 ?kt2_2 ?kt2_3 ?kt2_4 ?kt2_5 ?ktv2 ?exm2 ?xg2 ?xk2 ?xd2 ?xa2 ?xm2 ?kt3_0 ?kt3_1 ?kt3_2 ?kt3_3 ?kt3_4 ?kt3_5 ?ktv3 ?exm3 ?xg3 ?xk3 ?xd3 ?xa3 ?xm3 ?sfB ?sub_int ?sub_bool ?sub_dict ?rdB ?gaB ?d_and ?r_and ?d_or ?r_or ?d_xor ?r_xor ?d_shr ?r_shr ?q_shr ?d_shl ?r_shl ?q_shl ?tabO ?ntbO ?tabM ?ntbM ?tabL ?ntbL ?npom ?npol ?npml ?z_int ?z_bool ?z_abs ?z_len ?z_list ?z_tuple ?z_str ?z_range ?z_isinstance ?z_repr ?z_ValueError ?z_super
    (case aC_Blend => k_is)
    (case pg_Blend => k_is)
    (case hd_Blend => k_is)
    (case po_Blend => k_is)
    (case sa_Blend => k_is)
    (case mk_Blend => k_is)
    (case kc_Blend => k_is)
    (case n_Blend_width => k_is)
    (case n_Blend_shift => k_is)
    (case n_Blend_keep => k_is)
    (case n_Blend_flip => k_is)
    (case a_is_integer => k_is)
    (case l_is_integer => k_is)
    (case c_is_integer => k_is)
    (case k_is_integer => k_is)
    (case a_need_width => k_is)
    (case l_need_width => k_is)
    (case c_need_width => k_is)
    (case k_need_width => k_is)
    (case a_ones => k_is)
    (case l_ones => k_is)
    (case c_ones => k_is)
    (case k_ones => k_is)
    (case a_is_word => k_is)
    (case l_is_word => k_is)
    (case c_is_word => k_is)
    (case k_is_word => k_is)
    (case a_need_word => k_is)
    (case l_need_word => k_is)
    (case c_need_word => k_is)
    (case k_need_word => k_is)
    (case a_shifted => k_is)
    (case l_shifted => k_is)
    (case c_shifted => k_is)
    (case k_shifted => k_is)
    (case a_need_step => k_is)
    (case l_need_step => k_is)
    (case c_need_step => k_is)
    (case k_need_step => k_is)
    (case a_Blend___init__ => k_is)
    (case i_Blend___init__ => k_is)
    (case l_Blend___init__ => k_is)
    (case dt_Blend___init__ => k_is)
    (case c_Blend___init__ => k_is)
    (case k_Blend___init__ => k_is)
    (case a_Blend_constant => k_is)
    (case rc_Blend_constant => k_is)
    (case fi_Blend_constant => k_is)
    (case l_Blend_constant => k_is)
    (case c_Blend_constant => k_is)
    (case k_Blend_constant => k_is)
    (case a_Blend___call__ => k_is)
    (case i_Blend___call__ => k_is)
    (case l_Blend___call__ => k_is)
    (case c_Blend___call__ => k_is)
    (case k_Blend___call__ => k_is)
    (case a_Blend___and__ => k_is)
    (case i_Blend___and__ => k_is)
    (case l_Blend___and__ => k_is)
    (case c_Blend___and__ => k_is)
    (case k_Blend___and__ => k_is)
    (case a_Blend___rand__ => k_is)
    (case i_Blend___rand__ => k_is)
    (case l_Blend___rand__ => k_is)
    (case c_Blend___rand__ => k_is)
    (case k_Blend___rand__ => k_is)
    (case a_Blend___or__ => k_is)
    (case i_Blend___or__ => k_is)
    (case l_Blend___or__ => k_is)
    (case c_Blend___or__ => k_is)
    (case k_Blend___or__ => k_is)
    (case a_Blend___ror__ => k_is)
    (case i_Blend___ror__ => k_is)
    (case l_Blend___ror__ => k_is)
    (case c_Blend___ror__ => k_is)
    (case k_Blend___ror__ => k_is)
    (case a_Blend___xor__ => k_is)
    (case i_Blend___xor__ => k_is)
    (case l_Blend___xor__ => k_is)
    (case c_Blend___xor__ => k_is)
    (case k_Blend___xor__ => k_is)
    (case a_Blend___rxor__ => k_is)
    (case i_Blend___rxor__ => k_is)
    (case l_Blend___rxor__ => k_is)
    (case c_Blend___rxor__ => k_is)
    (case k_Blend___rxor__ => k_is)
    (case a_Blend___lshift__ => k_is)
    (case i_Blend___lshift__ => k_is)
    (case l_Blend___lshift__ => k_is)
    (case c_Blend___lshift__ => k_is)
    (case k_Blend___lshift__ => k_is)
    (case a_Blend___rshift__ => k_is)
    (case i_Blend___rshift__ => k_is)
    (case l_Blend___rshift__ => k_is)
    (case c_Blend___rshift__ => k_is)
    (case k_Blend___rshift__ => k_is)
    (case a_Blend___repr__ => k_is)
    (case i_Blend___repr__ => k_is)
    (case l_Blend___repr__ => k_is)
    (case c_Blend___repr__ => k_is)
    (case k_Blend___repr__ => k_is)
    (case a_moved => k_is)
    (case l_moved => k_is)
    (case c_moved => k_is)
    (case k_moved => k_is)
    (case a__law_pen => k_is)
    (case l__law_pen => k_is)
    (case c__law_pen => k_is)
    (case k__law_pen => k_is)
    (case a__law_draw => k_is)
    (case l__law_draw => k_is)
    (case c__law_draw => k_is)
    (case k__law_draw => k_is)
    (case a__law_word => k_is)
    (case l__law_word => k_is)
    (case c__law_word => k_is)
    (case k__law_word => k_is)
    (case a__law_heard => k_is)
    (case l__law_heard => k_is)
    (case c__law_heard => k_is)
    (case k__law_heard => k_is)
    (case a__law_odd => k_is)
    (case l__law_odd => k_is)
    (case c__law_odd => k_is)
    (case k__law_odd => k_is)
    (case a__law_whole => k_is)
    (case l__law_whole => k_is)
    (case c__law_whole => k_is)
    (case k__law_whole => k_is)
    (case a__law_due => k_is)
    (case l__law_due => k_is)
    (case c__law_due => k_is)
    (case k__law_due => k_is)
    (case a__law_made_right => k_is)
    (case l__law_made_right => k_is)
    (case c__law_made_right => k_is)
    (case k__law_made_right => k_is)
    (case a__law_operations_right => k_is)
    (case l__law_operations_right => k_is)
    (case c__law_operations_right => k_is)
    (case k__law_operations_right => k_is)
    (case a_law => k_is)
    (case l_law => k_is)
    (case c_law => k_is)
    (case k_law => k_is)
    (case tyg => k_is)
    (case tyt => k_is)
    (case fnC => exact rfl)
    (case aWd => k_is)
    (case lWd => k_is)
    (case aB => k_is)
    (case aE0 => k_is)
    (case aE1 => k_is)
    (case aE2 => k_is)
    (case aE3 => k_is)
    (case aE4 => k_is)
    (case aE5 => k_is)
    (case xs0 => exact rfl)
    (case xv0 => k_is)
    (case lkE0 => k_is)
    (case lkF0 => exact rfl)
    (case rvE0 => exact rfl)
    (case saE0 => k_is)
    (case tyE0 => exact rfl)
    (case kpE0 => k_is)
    (case inE0 => k_is)
    (case tiE0 => exact rfl)
    (case lIK0 => k_is)
    (case cIK0 => k_is)
    (case lcd0 => k_is)
    (case vsI0 => exact rfl)
    (case fiI0 => exact rfl)
    (case lcc0 => k_is)
    (case sbI0 => k_is)
    (case veI0 => k_is)
    (case suI0 => exact rfl)
    (case xs2 => exact rfl)
    (case xv2 => k_is)
    (case lkE2 => k_is)
    (case lkF2 => exact rfl)
    (case rvE2 => exact rfl)
    (case saE2 => k_is)
    (case tyE2 => exact rfl)
    (case kpE2 => k_is)
    (case inE2 => k_is)
    (case tiE2 => exact rfl)
    (case lIK2 => k_is)
    (case cIK2 => k_is)
    (case lcd2 => k_is)
    (case vsI2 => exact rfl)
    (case fiI2 => exact rfl)
    (case lcc2 => k_is)
    (case sbI2 => k_is)
    (case veI2 => k_is)
    (case suI2 => exact rfl)
    (case xs3 => exact rfl)
    (case xv3 => k_is)
    (case lkE3 => k_is)
    (case lkF3 => exact rfl)
    (case rvE3 => exact rfl)
    (case saE3 => k_is)
    (case tyE3 => exact rfl)
    (case kpE3 => k_is)
    (case inE3 => k_is)
    (case tiE3 => exact rfl)
    (case lIK3 => k_is)
    (case cIK3 => k_is)
    (case lcd3 => k_is)
    (case vsI3 => exact rfl)
    (case fiI3 => exact rfl)
    (case lcc3 => k_is)
    (case sbI3 => k_is)
    (case veI3 => k_is)
    (case suI3 => exact rfl)
    (case tpI => exact rfl)
    (case opI => k_is)
    (case kt0_0 => exact rfl)
    (case kt0_1 => exact rfl)
    (case kt0_2 => exact rfl)
    (case kt0_3 => exact rfl)
    (case kt0_4 => exact rfl)
    (case kt0_5 => exact rfl)
    (case ktv0 => exact rfl)
    (case exm0 => exact rfl)
    (case xg0 => k_is)
    (case xk0 => k_is)
    (case xd0 => k_is)
    (case xa0 => k_is)
    (case xm0 => k_is)
    (case kt2_0 => exact rfl)
    (case kt2_1 => exact rfl)
    (case kt2_2 => exact rfl)
    (case kt2_3 => exact rfl)
    (case kt2_4 => exact rfl)
    (case kt2_5 => exact rfl)
    (case ktv2 => exact rfl)
    (case exm2 => exact rfl)
    (case xg2 => k_is)
    (case xk2 => k_is)
    (case xd2 => k_is)
    (case xa2 => k_is)
    (case xm2 => k_is)
    (case kt3_0 => exact rfl)
    (case kt3_1 => exact rfl)
    (case kt3_2 => exact rfl)
    (case kt3_3 => exact rfl)
    (case kt3_4 => exact rfl)
    (case kt3_5 => exact rfl)
    (case ktv3 => exact rfl)
    (case exm3 => exact rfl)
    (case xg3 => k_is)
    (case xk3 => k_is)
    (case xd3 => k_is)
    (case xa3 => k_is)
    (case xm3 => k_is)
    (case sfB => exact rfl)
    (case sub_int => exact rfl)
    (case sub_bool => exact rfl)
    (case sub_dict => exact rfl)
    (case rdB => k_is)
    (case gaB => k_is)
    (case d_and => exact rfl)
    (case r_and => exact rfl)
    (case d_or => exact rfl)
    (case r_or => exact rfl)
    (case d_xor => exact rfl)
    (case r_xor => exact rfl)
    (case d_shr => exact rfl)
    (case r_shr => exact rfl)
    (case q_shr => first | exact .inl rfl | exact .inr ⟨_, rfl⟩)
    (case d_shl => exact rfl)
    (case r_shl => exact rfl)
    (case q_shl => first | exact .inl rfl | exact .inr ⟨_, rfl⟩)
    (case tabO => exact rfl)
    (case ntbO => exact rfl)
    (case tabM => exact rfl)
    (case ntbM => exact rfl)
    (case tabL => exact rfl)
    (case ntbL => exact rfl)
    (case npom => decide)
    (case npol => decide)
    (case npml => decide)
    (case z_int => k_is)
    (case z_bool => k_is)
    (case z_abs => k_is)
    (case z_len => k_is)
    (case z_list => k_is)
    (case z_tuple => k_is)
    (case z_str => k_is)
    (case z_range => k_is)
    (case z_isinstance => k_is)
    (case z_repr => k_is)
    (case z_ValueError => k_is)
    (case z_super => k_is)

