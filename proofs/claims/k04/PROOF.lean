import PyProof.Rows.All
import Wide.All
import OpenK.AllK
import Wide.FinOn
import HandS.ForMost
import HandS.Evl
import HandS.IsInst
import HandS.ClsMeth
import HandS.Flow
import HandS.TupAny
import HandS.Walk
import HandS.Defaults
import HandS.Deep
import PyProof.ReprReads
import HandS.SlotsOwn
import HandS.MakeKw
import HandS.MakeKwOnly
import HandS.FStr
import HandS.More
import KE.KCallOwn
import PyProof.InstNe
import HandS.ExcInit
import HandS.ExcSuper
import HandS.ExcField
import HandS.ExcIs
import KE.KExcIs
import KE.KIsAll
import KE.KSuper
import KE.KExcSuper
import PyProof.EqKinds
import HandS.Dict
import HandS.SetFor
import HandS.Lambda
import HandS.EndBits
import HandS.EndTab
import HandS.WordsExc
import KE.KNestM
import OpenK.KOps
import KE.KOpsOwn
import HandS.Conv
import KE.BitLaws
import PyProof.Ascii
import PyProof.Rows.ReprOcc
import PyProof.FitsInt
import PyProof.ReprNest
import PyProof.ReprRoads
import HandS.Strs
import HandS.SortInts
import HandS.DictComp
import HandS.GenList
import HandS.Zip
import PyProof.Draws
import PyProof.EnumMake
import KE.GoesMore
import PyProof.ReprLen
import HandS.Property
import HandS.SortRule
import HandS.Style
import HandS.NoneIn
import PySem.Challenge.RW_keptbits_k04_whole_blends_one_after_anot
set_option Elab.async false
set_option linter.all false
set_option maxRecDepth 100000
set_option maxHeartbeats 4000000
/-! KB: own helpers over the hand layer: callees bundled, match, readings as steps. -/
namespace KB
open PySem PySem.Spec PyProof.Rows L2

section
variable {X : Cx}
/-! ### callees -/
structure Callee (P : Program) (w : World) (K : PySem.W.Frag) (mg : Str → Option Value) (base : Heap) (CX : CXT) (k : Nat) (x : Str) (ps : List Str) (sp : Sp) : Prop where
  ex : ∃ (f : Addr) (fd : FuncData), FnOk P w K mg base CX k f fd ps sp ∧ mg x = some (.ref f) ∧ PySem.W.keepIn K (.ref f) = true ∧ Binds K fd ps []
structure CalleeM (P : Program) (w : World) (K : PySem.W.Frag) (mg : Str → Option Value) (base : Heap) (CX : CXT) (k : Nat) (C : Addr) (m : Str) (ps : List Str) (sp : Sp) : Prop where
  ex : ∃ (f : Addr) (fd : FuncData), FnOk P w K mg base CX k f fd ps sp ∧ Meth K C m f ∧ Binds K fd ps []
  cl : Cls K C
structure CalleeI (P : Program) (w : World) (K : PySem.W.Frag) (mg : Str → Option Value) (base : Heap) (CX : CXT) (k : Nat) (C : Addr) (x : Str) (ps : List Str) (sp : Sp) : Prop where
  ex : ∃ (f : Addr) (fd : FuncData), FnOk P w K mg base CX k f fd ps sp ∧ Mk K C f ∧ mg x = some (.ref C) ∧ Binds K fd ps []
theorem pe_callC {CX : CXT} {k : Nat} {x : Str} {ps : List Str} {sp : Sp} {E : XK} {e : Expr} {es : List Expr} {p pos : Pos} {t : TA} (c : Callee X.prog X.w X.K X.mg X.base CX k x ps sp) (hr : Room k X.A) (hg : Gl X x) (hx : Passes CX X E) (ha : PA X (e :: es) t)
    (hdb : (x == ("__debug__" : Str)) = false := by decide) (he : starEach (e :: es) X.env = (false, eval e X.env) :: starEach es X.env := by rfl) (hpl : (backTo pos (starEach es X.env)).any (·.1) = false := by rfl) :
    PE X (.Call (.Name x p) (e :: es) [] pos) (tCall sp [] E t) := by
  obtain ⟨f, fd, F, hm, hk, hb⟩ := c.ex
  exact pe_call F hr hg hm hk hb .nil hx ha hdb he hpl
theorem pe_callC0 {CX : CXT} {k : Nat} {x : Str} {ps : List Str} {sp : Sp} {E : XK} {p pos : Pos} (c : Callee X.prog X.w X.K X.mg X.base CX k x ps sp) (hr : Room k X.A) (hg : Gl X x) (hx : Passes CX X E)
    (hdb : (x == ("__debug__" : Str)) = false := by decide) :
    PE X (.Call (.Name x p) [] [] pos) (tCall sp [] E tNil) := by
  obtain ⟨f, fd, F, hm, hk, hb⟩ := c.ex
  exact pe_call0 F hr hg hm hk hb .nil hx hdb
theorem pe_methC {pl : Sem Bool} {CX : CXT} {k : Nat} {C : Addr} {m : Str} {ps : List Str} {sp : Sp} {E : XK} {o e : Expr} {es : List Expr} {apos pos : Pos} {ta : TE} {t : TA} (c : CalleeM X.prog X.w X.K X.mg X.base CX k C m ps sp) (ho : PE X o ta) (hr : Room k X.A) (hx : Passes CX X E) (ha : PA X (e :: es) t)
    (hst : starEach (e :: es) X.env = (false, eval e X.env) :: starEach es X.env := by rfl) (hpl : (backTo pos (starEach es X.env)).any (·.1) = false := by rfl)
    (ht : eval (.Call (.Attribute o m apos) (e :: es) [] pos) X.env = (do
      let ov ← eval o X.env
      standAt apos.atName
      let (f, first) ← holding [ov] (getMethod ov m pl)
      callWith pos f first (backTo pos (starEach (e :: es) X.env)) (backToKw pos (keywordEach [] X.env))) := by rfl) :
    PE X (.Call (.Attribute o m apos) (e :: es) [] pos) (tMeth C m sp [] E ta t) := by
  obtain ⟨f, fd, F, hm, hb⟩ := c.ex
  exact pe_meth ho c.cl hm F hr hb .nil hx ha hst hpl ht
theorem pe_methC0 {pl : Sem Bool} {CX : CXT} {k : Nat} {C : Addr} {m : Str} {ps : List Str} {sp : Sp} {E : XK} {o : Expr} {apos pos : Pos} {ta : TE} (c : CalleeM X.prog X.w X.K X.mg X.base CX k C m ps sp) (ho : PE X o ta) (hr : Room k X.A) (hx : Passes CX X E)
    (ht : eval (.Call (.Attribute o m apos) [] [] pos) X.env = (do
      let ov ← eval o X.env
      standAt apos.atName
      let (f, first) ← holding [ov] (getMethod ov m pl)
      callWith pos f first [] (backToKw pos (keywordEach [] X.env))) := by rfl) :
    PE X (.Call (.Attribute o m apos) [] [] pos) (tMeth C m sp [] E ta tNil) := by
  obtain ⟨f, fd, F, hm, hb⟩ := c.ex
  exact pe_meth0 ho c.cl hm F hr hb .nil hx ht
theorem pe_makeC {CX : CXT} {k : Nat} {C : Addr} {x : Str} {ps : List Str} {sp : Sp} {E : XK} {e : Expr} {es : List Expr} {p pos : Pos} {t : TA} (c : CalleeI X.prog X.w X.K X.mg X.base CX k C x ps sp) (hr : Room (k + 1) X.A) (hg : Gl X x) (hx : Passes CX X E) (ha : PA X (e :: es) t)
    (hdb : (x == ("__debug__" : Str)) = false := by decide) (he : starEach (e :: es) X.env = (false, eval e X.env) :: starEach es X.env := by rfl) (hpl : (backTo pos (starEach es X.env)).any (·.1) = false := by rfl) :
    PE X (.Call (.Name x p) (e :: es) [] pos) (tMake C sp [] E t) := by
  obtain ⟨f, fd, F, M, hm, hb⟩ := c.ex
  exact pe_make M F hr hg hm hb .nil hx ha hdb he hpl

/-- a def with defaults, called without them; called by keywords -/
structure CalleeD (P : Program) (w : World) (K : PySem.W.Frag) (mg : Str → Option Value) (base : Heap) (CX : CXT) (k : Nat) (x : Str) (ps : List Str) (sp : Sp) (dvs : List V) : Prop where
  ex : ∃ (f : Addr) (fd : FuncData) (ds : List Value), FnOk P w K mg base CX k f fd ps sp ∧ mg x = some (.ref f) ∧ PySem.W.keepIn K (.ref f) = true ∧ Binds K fd ps ds ∧ Vals dvs ds
structure CalleeKw (P : Program) (w : World) (K : PySem.W.Frag) (mg : Str → Option Value) (base : Heap) (CX : CXT) (k : Nat) (x : Str) (ps : List Str) (sp : Sp) (n : Nat) (ks : List Str) (gV : List V → List V → List V) : Prop where
  ex : ∃ (f : Addr) (fd : FuncData) (g : List Value → List Value → List Value), FnOk P w K mg base CX k f fd ps sp ∧ mg x = some (.ref f) ∧ PySem.W.keepIn K (.ref f) = true ∧ KBn K fd ps n ks g gV
theorem pe_callD {CX : CXT} {k : Nat} {x : Str} {ps : List Str} {sp : Sp} {dvs : List V} {E : XK} {e : Expr} {es : List Expr} {p pos : Pos} {t : TA} (c : CalleeD X.prog X.w X.K X.mg X.base CX k x ps sp dvs) (hr : Room k X.A) (hg : Gl X x) (hx : Passes CX X E) (ha : PA X (e :: es) t)
    (hdb : (x == ("__debug__" : Str)) = false := by decide) (he : starEach (e :: es) X.env = (false, eval e X.env) :: starEach es X.env := by rfl) (hpl : (backTo pos (starEach es X.env)).any (·.1) = false := by rfl) :
    PE X (.Call (.Name x p) (e :: es) [] pos) (tCall sp dvs E t) := by
  obtain ⟨f, fd, ds, F, hm, hk, hb, hd⟩ := c.ex
  exact pe_call F hr hg hm hk hb hd hx ha hdb he hpl
theorem pe_callKw {CX : CXT} {k n : Nat} {x : Str} {ps ks : List Str} {sp : Sp} {gV : List V → List V → List V} {E : XK} {e : Expr} {es : List Expr} {kws : List Keyword} {p pos : Pos} {t tk : TA} (c : CalleeKw X.prog X.w X.K X.mg X.base CX k x ps sp n ks gV) (hr : Room k X.A) (hg : Gl X x) (hx : Passes CX X E)
    (ha : PA X (e :: es) t) (hkw : PK X kws tk) (hall : (backToKw pos (keywordEach kws X.env)).all (·.1.isSome) = true := by rfl) (hks : (backToKw pos (keywordEach kws X.env)).filterMap (·.1) = ks := by rfl)
    (hdb : (x == ("__debug__" : Str)) = false := by decide) (he : starEach (e :: es) X.env = (false, eval e X.env) :: starEach es X.env := by rfl)
    (hpl : ((backTo pos (starEach (e :: es) X.env)).any (·.1) || (backToKw pos (keywordEach kws X.env)).any (·.1.isNone)) = false := by rfl) :
    PE X (.Call (.Name x p) (e :: es) kws pos) (tCallN n ks.length sp gV E t tk) := by
  obtain ⟨f, fd, g, F, hm, hk, hb⟩ := c.ex
  exact pe_callN F hr hg hm hk hb hx ha hkw hall hks hdb he hpl
theorem hu65 {A : Around} {k : Nat} (hr : Room k A) : A.units + 65 < cLine := by have := hr.un; omega
/-! ### match over written texts -/
structure PM (X : Cx) (cs : List MatchCase) (tm : V → TS) : Prop where
  run : ∀ (pins : List (Addr × Obj)) (s : Shared) (σ : L2.St) (H : Hp) (D : Ends) (v : V) (u : Value) (first : Bool), Inv X pins σ H s → RelV v u → tm v D σ H → wpAny (model X.prog X.w) X.A (matchCases cs X.env u first) (SP X pins D) X.xe s
def tmNil : V → TS := fun _ D σ H => D.nx σ H
def tmStr (x : Str) (t : TS) (tr : V → TS) : V → TS := fun v D σ H => ∃ y, v = .str y ∧ if decide (y = x) = true then t D σ H else tr v D σ H
def tMatch (te : TE) (tm : V → TS) : TS := fun D σ H => te σ H fun x H1 => tm x D σ H1
theorem pm_nil : PM X [] tmNil := ⟨fun _ _ σ H _ _ _ _ I _ h => wpAny_matchCases_nil ⟨σ, H, I, h⟩⟩
theorem pm_str {x : Str} {j : _} {pos pos' : Pos} {body : List Stmt} {rest : List MatchCase} {t : TS} {tr : V → TS} (hb : PSs X body t) (hr : PM X rest tr) : PM X (⟨.MatchValue (.Constant (.str x) j pos) pos', none, body⟩ :: rest) (tmStr x t tr) := by
  refine ⟨fun pins s σ H D v u first I r h => ?_⟩
  obtain ⟨y, rfl, h⟩ := h
  refine wpAny_matchCases_cons (wpAny_matchPattern_Value ?_)
  refine thn (pe_str.run pins s σ H (fun v' H' => v' = .str x ∧ H' = H) I ⟨rfl, rfl⟩) fun u1 s1 ⟨v1, H1, I1, r1, e1, e2⟩ => ?_
  subst e1 e2
  refine thn (op_eq pins s1 σ H1 (.str y) (.str x) u u1 (fun v' H' => v' = .bl (decide (y = x)) ∧ H' = H1) I1 r r1 ⟨rfl, ?_, rfl⟩) fun u2 s2 ⟨v2, H2, I2, r2, e3, e4⟩ => ?_
  · congr 1
    by_cases e : y = x
    · subst e; simp
    · simp [e]
  subst e3 e4
  obtain rfl : u2 = Value.bool (decide (y = x)) := r2
  refine wpAny_truthy_bool ?_
  by_cases e : y = x
  · rw [if_pos (decide_eq_true e)]
    rw [if_pos (decide_eq_true e)] at h
    refine wpAny_assignInOrder_none ?_
    exact hb.run pins s2 σ H2 D I2 h
  · rw [if_neg (by simp [e])]
    rw [if_neg (by simp [e])] at h
    exact hr.run pins s2 σ H2 D _ u false I2 r h
theorem ps_match {e : Expr} {cs : List MatchCase} {pos : Pos} {te : TE} {tm : V → TS} (he : PE X e te) (hm : PM X cs tm) : PS X (.Match e cs pos) (tMatch te tm) := by
  refine ⟨fun pins s σ H D I h => ?_⟩
  refine wpAny_Match (thn (he.run pins s σ H _ I h) fun u s1 ⟨x, H1, I1, r1, q1⟩ => ?_)
  exact hm.run pins s1 σ H1 D x u true I1 r1 q1
end

/-! ### readings as steps -/
def ForW (J : It) (g : TG) (tb : TS) (D : Ends) (σ : L2.St) (H : Hp) : Prop := ∃ W : Nat → Nat → L2.St → Hp → Prop, (∃ m, W 0 m σ H) ∧ ∀ i m σ H, W i m σ H →
      (J.stop i H ∧ D.nx σ H) ∨ (J.go i H ∧ ∃ N : L2.St → Hp → Prop, (∀ σ' H', N σ' H' → ∃ m', m' < m ∧ W (i + 1) m' σ' H') ∧ ∀ x H', J.yld i H x H' → g x σ H' fun σ2 H2 => tb { D with nx := N, ct := N, bk := D.nx } σ2 H2)
def LcW (J : It) (g : TG) (tt : TT) (te : TE) (vs : List Nat) (σ : L2.St) (H1 : Hp) (Q : VK) : Prop := ∀ D, H1 D = none → ∃ W : Nat → Nat → Hp → Prop, (∃ m, W 0 m (upd H1 D (.lst []))) ∧ ∀ i m H, W i m H →
  (J.stop i H ∧ Q (.ref D) H) ∨ (J.go i H ∧ ∃ Nx : Hp → Prop, (∀ H', Nx H' → ∃ m', m' < m ∧ W (i + 1) m' H') ∧ ∀ x H', J.yld i H x H' → g x (wipe σ vs) H' fun σ2 H2 => wipe σ2 vs = wipe σ vs ∧ tt σ2 H2 fun b H3 =>
    if b = true then te σ2 H3 fun y H4 => ∃ acc, H4 D = some (.lst acc) ∧ acc.length < sizeLine ∧ Nx (upd H4 D (.lst (acc ++ [y]))) else Nx H3)
theorem forW {J : It} {n : Nat} {G : Hp → Prop} {Y : Nat → Hp → V → Hp → Prop} (wk : Walk J n G Y) {g : TG} {tb : TS} {D : Ends} {σ : L2.St} {H : Hp} (Pv : Nat → L2.St → Hp → Prop) (h0 : Pv 0 σ H) (hG : ∀ i σ H, i ≤ n → Pv i σ H → G H)
    (hs : ∀ i x σ H H', i < n → Pv i σ H → Y i H x H' → g x σ H' fun σ2 H2 => tb { D with nx := Pv (i + 1), ct := Pv (i + 1), bk := D.nx } σ2 H2) (hd : ∀ σ H, Pv n σ H → D.nx σ H) : ForW J g tb D σ H := for_it wk Pv h0 hG hs hd
section
variable {K : PySem.W.Frag} {σ : L2.St} {H : Hp} {D : Ends} {ta tb tc te : TE} {tA tr : TA} {t u : TT} {t1 t2 tu : TS} {x y v : V} {Q : VK} {QT : Bool → Hp → Prop} {QA : List V → Hp → Prop} {R : It → Hp → Prop} {i : Nat} {a p : Addr} {xs ys : List V}
theorem r_var (h : σ[i]? = some (some v)) (q : Q v H) : tVar i σ H Q := ⟨v, h, q⟩
theorem r_c (q : Q v H) : tC v σ H Q := q
theorem r_op {r : R2} (q : ta σ H fun x H1 => tb σ H1 fun y H2 => r x y H2 Q) : tOp r ta tb σ H Q := q
theorem r_un {r : V → Hp → VK → Prop} (q : ta σ H fun x H1 => r x H1 Q) : tUn r ta σ H Q := q
theorem r_I0 {g : Int → Int → V} {m n : Int} (q : Q (g m n) H) : rI0 g (.int m) (.int n) H Q := ⟨m, n, rfl, rfl, q⟩
theorem r_I {C : Int → Int → Prop} {g : Int → Int → V} {m n : Int} (hc : C m n) (q : Q (g m n) H) : rI C g (.int m) (.int n) H Q := ⟨m, n, rfl, rfl, hc, q⟩
theorem r_U {g : Int → V} {m : Int} (q : Q (g m) H) : rU g (.int m) H Q := ⟨m, rfl, q⟩
theorem r_eq (h : scal x y = true) (q : Q (.bl (decide (x = y))) H) : rEq x y H Q := ⟨h, q⟩
theorem r_ne (h : scal x y = true) (q : Q (.bl (!decide (x = y))) H) : rNe x y H Q := ⟨h, q⟩
theorem r_test (q : te σ H fun x H' => ∃ k, x = .bl k ∧ QT k H') : tTest te σ H QT := q
theorem r_B (q : te σ H fun x H' => ∃ k, x = .bl k ∧ QT k H') : tB te σ H QT := q
theorem r_bl {b : Bool} {q : Bool → Prop} (h : q b) : ∃ k, V.bl b = .bl k ∧ q k := ⟨b, rfl, h⟩
theorem r_and (q : t σ H fun c H1 => if c = true then u σ H1 QT else QT false H1) : tAnd t u σ H QT := q
theorem r_or (q : t σ H fun c H1 => if c = true then QT true H1 else u σ H1 QT) : tOr t u σ H QT := q
theorem r_not (q : t σ H fun c H1 => QT (!c) H1) : tNot t σ H QT := q
theorem r_andV (q : ta σ H fun x H1 => ∃ c, x = .bl c ∧ if c = true then tb σ H1 Q else Q (.bl false) H1) : tAndV ta tb σ H Q := q
theorem r_orV (q : ta σ H fun x H1 => ∃ c, x = .bl c ∧ if c = true then Q (.bl true) H1 else tb σ H1 Q) : tOrV ta tb σ H Q := q
theorem r_notV (q : ta σ H fun x H1 => ∃ c, x = .bl c ∧ Q (.bl (!c)) H1) : tNotV ta σ H Q := q
theorem r_if (q : t σ H fun c H1 => if c = true then ta σ H1 Q else tb σ H1 Q) : tIf t ta tb σ H Q := q
theorem r_nil (q : QA [] H) : tNil σ H QA := q
theorem r_cons (q : ta σ H fun x H1 => tr σ H1 fun xs H2 => QA (x :: xs) H2) : tCons ta tr σ H QA := q
theorem r_tup (q : tA σ H fun xs H1 => xs.length ≤ sizeLine ∧ ∀ p, H1 p = none → Q (.ref p) (upd H1 p (.tup xs))) : tTup tA σ H Q := q
theorem r_lst (q : tA σ H fun xs H1 => xs.length ≤ sizeLine ∧ ∀ p, H1 p = none → Q (.ref p) (upd H1 p (.lst xs))) : tLst tA σ H Q := q
theorem r_call {sp : Sp} {E : XK} (q : tA σ H fun vs H1 => sp (vs ++ []) H1 Q E) : tCall sp [] E tA σ H Q := q
theorem r_cb {r : List V → Hp → VK → Prop} (q : tA σ H fun vs H1 => r vs H1 Q) : tCB r tA σ H Q := q
theorem r_ixL {n : Int} (h : SqL K H p xs) (ha : atI xs n = some v) (q : Q v H) : rIxL K (.ref p) (.int n) H Q := ⟨p, xs, n, v, rfl, rfl, h, ha, q⟩
theorem r_ixT {n : Int} (h : SqT K H p xs) (ha : atI xs n = some v) (q : Q v H) : rIxT K (.ref p) (.int n) H Q := ⟨p, xs, n, v, rfl, rfl, h, ha, q⟩
theorem r_ixS {z : Str} {n : Int} {c : Nat} (hz : z.length ≤ sizeLine) (ha : atI z.cps.toList n = some c) (q : Q (.str ⟨#[c]⟩) H) : rIxS (.str z) (.int n) H Q := ⟨z, n, c, rfl, rfl, hz, ha, q⟩
theorem r_setL {n : Int} {j : Nat} {QH : Hp → Prop} (h : H p = some (.lst xs)) (hj : ixN xs.length n = some j) (q : QH (upd H p (.lst (xs.set j v)))) : rSetL (.ref p) (.int n) v H QH := ⟨p, xs, n, j, rfl, rfl, h, hj, q⟩
theorem r_fld {f : Str} (q : ta σ H fun x H1 => ∃ a C dx fs v, x = .ref a ∧ H1 a = some (.ins C dx fs) ∧ Cls K C ∧ NoAttr K C f ∧ fs.lookup f = some v ∧ Q v H1) : tFld K ta f σ H Q := q
theorem r_meth {C : Addr} {m : Str} {sp : Sp} {E : XK} (q : ta σ H fun x H1 => ∃ a dx fs, x = .ref a ∧ H1 a = some (.ins C dx fs) ∧ fs.lookup m = none ∧ tA σ H1 fun vs H2 => sp (x :: (vs ++ [])) H2 Q E) : tMeth C m sp [] E ta tA σ H Q := q
theorem r_cval {C : Addr} {mc : Value} {f : Str} {uu : Value} (h1 : ClX.CRead K C mc) (h2 : ClX.CVal K C mc f v uu) (q : Q v H) : ClX.tCVal K (tC (.ref C)) f σ H Q := ⟨C, mc, v, uu, rfl, h1, h2, q⟩
theorem r_fldV {C dx : Addr} {fs : List (Str × V)} {f : Str} (hp : H a = some (.ins C dx fs)) (hc : Cls K C) (hn : NoAttr K C f) (hl : fs.lookup f = some v) (hv : σ[i]? = some (some (.ref a))) (q : Q v H) : tFld K (tVar i) f σ H Q := ⟨.ref a, hv, a, C, dx, fs, v, rfl, hp, hc, hn, hl, q⟩
theorem r_sfld {f : Str} {tv : TE} (q : tv σ H fun y H1 => ta σ H1 fun x H2 => ∃ a C dx fs, x = .ref a ∧ H2 a = some (.ins C dx fs) ∧ Cls K C ∧ NoAttr K C f ∧ fs.length < 1000 ∧ D.nx σ (upd H2 a (.ins C dx (putF f y fs)))) : sFld K ta tv f D σ H := q
theorem r_itup (q : te σ H fun x H1 => ∃ a, x = .ref a ∧ (∃ xs, SqT K H1 a xs) ∧ R (Itt K a) H1) : iTup K te σ H R := q
theorem r_ilist (q : te σ H fun x H1 => ∃ a, x = .ref a ∧ (∃ xs, SqL K H1 a xs) ∧ R (Itl K a) H1) : iList K te σ H R := q
theorem r_istr (q : te σ H fun v H1 => ∃ x, v = .str x ∧ R (Its x) H1) : iStr te σ H R := q
theorem r_m1 {r : V → List V → Hp → VK → Prop} (q : ta σ H fun x H1 => (∃ a, x = .str a) ∧ te σ H1 fun y H2 => r x [y] H2 Q) : tM1 r ta te σ H Q := q
theorem r_m0 {r : V → List V → Hp → VK → Prop} (q : ta σ H fun x H1 => (∃ a, x = .str a) ∧ r x [] H1 Q) : tM0 r ta σ H Q := q
theorem r_isStr {z : Str} {B : Prop} (g : B) : (∃ a, V.str z = .str a) ∧ B := ⟨⟨z, rfl⟩, g⟩
theorem r_exStr {z : Str} {q : Str → Prop} (g : q z) : ∃ x, V.str z = .str x ∧ q x := ⟨z, rfl, g⟩
theorem r_gname {QG : L2.St → Hp → Prop} (q : QG (σ.set i (some v)) H) : gName i v σ H QG := q
theorem r_callD {sp : Sp} {dvs : List V} {E : XK} (q : tA σ H fun vs H1 => sp (vs ++ dvs) H1 Q E) : tCall sp dvs E tA σ H Q := q
theorem r_callN {n m : Nat} {sp : Sp} {gV : List V → List V → List V} {E : XK} {tk : TA} (q : tA σ H fun vs H1 => tk σ H1 fun zs H2 => vs.length = n ∧ zs.length = m ∧ sp (gV vs zs) H2 Q E) : tCallN n m sp gV E tA tk σ H Q := q
theorem r_dget1 (q : ta σ H fun x H1 => ∃ a, x = .ref a ∧ IsD H1 a ∧ tb σ H1 fun y H2 => ∃ o, DGet H2 a y o ∧ Q (o.getD .non) H2) : tDGet1 ta tb σ H Q := q
theorem r_dget (q : ta σ H fun x H1 => tb σ H1 fun y H2 => ∃ a v, x = .ref a ∧ DGet H2 a y (some v) ∧ Q v H2) : tDGet ta tb σ H Q := q
theorem r_disp {trs : List (TE × TE)} (q : ∀ p, H p = none → tPairs trs σ (upd H p (.dK [])) fun ps H2 => H2 p = some (.dK []) ∧ ∃ kvs : List (Key × V), ps = kvs.map (fun kv => (kV kv.1, kv.2)) ∧ kvs.length ≤ 15 ∧ Q (.ref p) (upd H2 p (.dK (mergeK [] kvs)))) : tDisp trs σ H Q := q
theorem r_pairs {trs : List (TE × TE)} {QP : List (V × V) → Hp → Prop} (q : ta σ H fun x H1 => tb σ H1 fun y H2 => tPairs trs σ H2 fun ps H3 => QP ((x, y) :: ps) H3) : tPairs ((ta, tb) :: trs) σ H QP := q
theorem r_pairs0 {QP : List (V × V) → Hp → Prop} (q : QP [] H) : tPairs [] σ H QP := q
theorem r_fldK {C dx : Addr} {fs : List (Str × V)} {f : Str} {G : V → Prop} (hp : H p = some (.ins C dx fs)) (hc : Cls K C) (hn : NoAttr K C f) (hl : fs.lookup f = some v) (q : G v) :
    ∃ a C dx fs v, V.ref p = .ref a ∧ H a = some (.ins C dx fs) ∧ Cls K C ∧ NoAttr K C f ∧ fs.lookup f = some v ∧ G v := ⟨p, C, dx, fs, v, rfl, hp, hc, hn, hl, q⟩
theorem r_gtup {n : Nat} {gs : TGs} {QG : L2.St → Hp → Prop} (h : SqT K H a xs) (hn : xs.length = n) (q : gs xs σ H QG) : gTup K n gs (.ref a) σ H QG := ⟨a, xs, rfl, h, hn, q⟩
theorem r_gcons {g : TG} {gs : TGs} {QG : L2.St → Hp → Prop} (q : g v σ H fun σ' H' => gs xs σ' H' QG) : gCons g gs (v :: xs) σ H QG := ⟨v, xs, rfl, q⟩
theorem r_gnil {QG : L2.St → Hp → Prop} (q : QG σ H) : gNil [] σ H QG := ⟨rfl, q⟩
theorem r_asgG {g : TG} (q : te σ H fun x H1 => g x σ H1 D.nx) : tAsg te g D σ H := q
theorem r_rng2 {m n : Int} {q : Int → Int → Prop} (h : q m n) : ∃ i j : Int, [V.int m, V.int n] = [.int i, .int j] ∧ q i j := ⟨m, n, rfl, h⟩
theorem r_irng2 (q : tA σ H fun vs H1 => ∃ i j : Int, vs = [.int i, .int j] ∧ (-(2 ^ 62) ≤ i ∧ i < 2 ^ 62 ∧ -(2 ^ 62) ≤ j ∧ j < 2 ^ 62) ∧ R (Itr i (j - i).toNat) H1) : iRng2 tA σ H R := q
theorem r_cat {p' : Addr} (h : H p = some (.lst xs)) (h' : H p' = some (.lst ys)) (hl : xs.length + ys.length ≤ sizeLine) (g : ∀ c, H c = none → Q (.ref c) (upd H c (.lst (xs ++ ys)))) : rCat (.ref p) (.ref p') H Q := ⟨p, p', xs, ys, rfl, rfl, h, h', hl, g⟩
theorem r_bm {T : String} {r : V → List V → Hp → VK → Prop} (q : ta σ H fun x H1 => tyV K T x H1 ∧ tA σ H1 fun xs H2 => r x xs H2 Q) : tBM K T r ta tA σ H Q := q
theorem r_tyL {B : Prop} (h : SqL K H p xs) (g : B) : tyV K "list" (.ref p) H ∧ B := ⟨.inl ⟨rfl, xs, h⟩, g⟩
theorem r_append (h : H p = some (.lst xs)) (hl : xs.length < sizeLine) (q : Q .non (upd H p (.lst (xs ++ [v])))) : rAppend (.ref p) [v] H Q := ⟨p, xs, v, rfl, rfl, h, hl, q⟩
theorem r_seq (q : t1 { D with nx := t2 D } σ H) : tSeq t1 t2 D σ H := q
theorem r_next (q : D.nx σ H) : tNext D σ H := q
theorem r_asg (q : te σ H fun x H1 => D.nx (σ.set i (some x)) H1) : tAsg te (gName i) D σ H := q
theorem r_asgS {s : TSet} (q : te σ H fun v H1 => ta σ H1 fun o H2 => tb σ H2 fun i H3 => s o i v H3 fun H4 => D.nx σ H4) : tAsg te (gSub ta tb s) D σ H := q
theorem r_ifS (q : t σ H fun b H1 => if b = true then t1 D σ H1 else t2 D σ H1) : tIfS t t1 t2 D σ H := q
theorem r_dput (q : tc σ H fun v H1 => ta σ H1 fun x H2 => tb σ H2 fun y H3 => ∃ a H4, x = .ref a ∧ DPut H3 a y v H4 ∧ D.nx σ H4) : sDPut ta tb tc D σ H := q
theorem r_ret (q : te σ H D.rt) : tRet te D σ H := q
theorem r_drop (q : te σ H fun _ H1 => D.nx σ H1) : tDrop te D σ H := q
theorem r_par {k j : Nat} (q : tA σ H fun vs H1 => ∃ v w, vs = [v, w] ∧ D.nx ((σ.set k (some v)).set j (some w)) H1) : tPar k j tA D σ H := q
theorem r_aug {tip : TIp} (h : σ[i]? = some (some x)) (q : te σ H fun y H1 => tip x y H1 fun z H2 => D.nx (σ.set i (some z)) H2) : tAug i te tip D σ H := ⟨x, h, q⟩
theorem r_match {tm : V → TS} (q : te σ H fun x H1 => tm x D σ H1) : tMatch te tm D σ H := q
theorem r_mstr {x y : Str} {tm : V → TS} (q : if decide (y = x) = true then t1 D σ H else tm (.str y) D σ H) : tmStr x t1 tm (.str y) D σ H := ⟨y, rfl, q⟩
theorem r_mnil (q : D.nx σ H) : tmNil v D σ H := q
theorem r_sl {r : V → Option Int → Option Int → Hp → VK → Prop} {tl th : TO} (q : te σ H fun x H1 => tl σ H1 fun l H2 => th σ H2 fun u H3 => r x l u H3 Q) : tSl r te tl th σ H Q := q
theorem r_nopart {QO : Option Int → Hp → Prop} (q : QO none H) : tNoPart σ H QO := q
theorem r_part {QO : Option Int → Hp → Prop} (q : te σ H fun x H1 => ∃ i, x = .int i ∧ QO (some i) H1) : tPart te σ H QO := q
theorem r_int {m : Int} {q : Int → Prop} (h : q m) : ∃ k, V.int m = .int k ∧ q k := ⟨m, rfl, h⟩
theorem r_int1 {m : Int} {q : Int → Prop} {B : Prop} (h : q m) : (∃ i, [V.int m] = [V.int i] ∧ q i) ∨ B := .inl ⟨m, rfl, h⟩
theorem r_bl1 {b : Bool} {q : Bool → Prop} {A : Prop} (h : q b) : A ∨ ∃ k, [V.bl b] = [V.bl k] ∧ q k := .inr ⟨b, rfl, h⟩
theorem r_ex1 {m : Int} {q : Int → Prop} (h : q m) : ∃ i, [V.int m] = [V.int i] ∧ q i := ⟨m, rfl, h⟩
theorem r_ex2 {m n : Int} {q : Int → Int → Prop} (h : q m n) : ∃ i j, [V.int m, V.int n] = [V.int i, V.int j] ∧ q i j := ⟨m, n, rfl, h⟩
theorem r_lenS {q : List V → Prop} (h : SqL K H p xs) (g : q xs) : ∃ a ys, [V.ref p] = [V.ref a] ∧ (SqL K H a ys ∨ SqT K H a ys) ∧ q ys := ⟨p, xs, rfl, .inl h, g⟩
theorem r_slL {lo hi : Option Int} (h : SqL K H p xs) (q : ∀ c, H c = none → Q (.ref c) (upd H c (.lst (cutV xs lo hi)))) : rSlL K (.ref p) lo hi H Q := ⟨p, xs, rfl, h, q⟩
theorem r_for {wi : TI} {g : TG} (q : wi σ H fun J H1 => ForW J g t1 D σ H1) : tFor wi g t1 D σ H := q
theorem r_lc {wi : TI} {g : TG} {tt : TT} {vs : List Nat} (q : wi σ H fun J H1 => LcW J g tt te vs σ H1 Q) : tLc wi g tt te vs σ H Q := q
theorem r_irng1 (q : tA σ H fun vs H1 => ∃ j : Int, vs = [.int j] ∧ -(2 ^ 62) ≤ j ∧ j < 2 ^ 62 ∧ R (Itr 0 j.toNat) H1) : iRng1 tA σ H R := q
theorem r_iteT {c : Prop} [Decidable c] {A B : Prop} (h : c) (q : A) : if decide c = true then A else B := by rw [if_pos (decide_eq_true h)]; exact q
theorem r_iteF {c : Prop} [Decidable c] {A B : Prop} (h : ¬ c) (q : B) : if decide c = true then A else B := by rw [if_neg (by simpa using h)]; exact q
theorem r_iteNT {c : Prop} [Decidable c] {A B : Prop} (h : ¬ c) (q : A) : if (!decide c) = true then A else B := by rw [if_pos (by simpa using h)]; exact q
theorem r_iteNF {c : Prop} [Decidable c] {A B : Prop} (h : c) (q : B) : if (!decide c) = true then A else B := by rw [if_neg (by simpa using h)]; exact q
theorem ite_join {c : Prop} [Decidable c] (Z : VK) (h1 : c → ∀ Q : VK, (∀ v H', Z v H' → Q v H') → ta σ H Q) (h2 : ¬ c → ∀ Q : VK, (∀ v H', Z v H' → Q v H') → tb σ H Q) (q : ∀ v H', Z v H' → Q v H') : if decide c = true then ta σ H Q else tb σ H Q := by
  by_cases h : c
  · rw [if_pos (decide_eq_true h)]; exact h1 h Q q
  · rw [if_neg (by simpa using h)]; exact h2 h Q q
theorem r_make {C : Addr} {sp : Sp} {E : XK} (q : tA σ H fun vs H1 => ∀ x dx, H1 x = none → H1 dx = none → dx ≠ x → sp (.ref x :: (vs ++ [])) (upd (upd H1 dx (.own x)) x (.ins C dx [])) (fun v H2 => v = .non ∧ Q (.ref x) H2) E) : tMake C sp [] E tA σ H Q := q
theorem r_addS {m n : Str} {q : Str → Str → Prop} (h : m.length + n.length ≤ sizeLine) (g : q m n) : ∃ i j, V.str m = .str i ∧ V.str n = .str j ∧ i.length + j.length ≤ sizeLine ∧ q i j := ⟨m, n, rfl, rfl, h, g⟩
theorem iteNt {A B : Prop} (h : B) : if (!true) = true then A else B := h
theorem iteNf {A B : Prop} (h : A) : if (!false) = true then A else B := h
theorem r_ite2 {c : Prop} [Decidable c] {A B : Prop} (h1 : c → A) (h2 : ¬ c → B) : if decide c = true then A else B := by
  by_cases h : c
  · exact r_iteT h (h1 h)
  · exact r_iteF h (h2 h)
theorem r_iteN2 {c : Prop} [Decidable c] {A B : Prop} (h1 : ¬ c → A) (h2 : c → B) : if (!decide c) = true then A else B := by
  by_cases h : c
  · exact r_iteNF h (h2 h)
  · exact r_iteNT h (h1 h)
end

theorem at_start {t : TS} {D : Ends} {σ σ0 : L2.St} {H : Hp} (h : σ0 = σ) (q : t D σ H) : t D σ0 H := h ▸ q
theorem cx_K {CX : CXT} {P : Program} {w : World} {K : PySem.W.Frag} {mg : Str → Option Value} {base : Heap} {N : List Str} {qual : Str} {sc : Scope} {f : Addr} {cd : Value} {A : Around} {outer : List Env} {s : Shared} {H : Hp} {E : XK} : (cxOf CX P w K mg base N qual sc f cd A outer s H E).nox.K = K := rfl
theorem mul_bd {x y A B : Int} (h0 : 0 ≤ x) (h1 : x ≤ A) (h2 : 0 ≤ y) (h3 : y ≤ B) : 0 ≤ x * y ∧ x * y ≤ A * B := ⟨Int.mul_nonneg h0 h2, Int.mul_le_mul h1 h3 h2 (Int.le_trans h0 h1)⟩
/-! ### flat lists compared -/
theorem dp_ints {K : PySem.W.Frag} {H : Hp} : ∀ ns : List Int, DpAll K H (ns.map V.int) (ns.map PyData.int)
  | [] => .nil
  | n :: r => .cons (.int n) (dp_ints r)
theorem lay_ints : ∀ ns : List Int, PyData.canLayAll0 (ns.map PyData.int) = true
  | [] => rfl
  | n :: r => by
    show (PyData.canLay0 (.int n) && PyData.canLayAll0 (r.map PyData.int)) = true
    rw [lay_ints r]; rfl
theorem depth_ints : ∀ ns : List Int, PyData.depthAll (ns.map PyData.int) = 0
  | [] => rfl
  | n :: r => by
    show max (PyData.depth (.int n)) (PyData.depthAll (r.map PyData.int)) = 0
    rw [depth_ints r]; rfl
theorem shaped_ints (ns : List Int) : SeqAt.shaped (.list (ns.map PyData.int)) = true := by
  show (PyData.canLayAll0 (ns.map PyData.int) && decide (PyData.depthAll (ns.map PyData.int) + 1 ≤ 64)) = true
  rw [lay_ints, depth_ints]; rfl
theorem eqv_ints : ∀ ns ms : List Int, PyData.eqvAll (ns.map PyData.int) (ms.map PyData.int) = decide (ns = ms)
  | [], [] => rfl
  | [], _ :: _ => rfl
  | _ :: _, [] => rfl
  | n :: r, m :: q => by
    show ((n == m) && PyData.eqvAll (r.map PyData.int) (q.map PyData.int)) = decide (n :: r = m :: q)
    rw [eqv_ints r q]
    by_cases h1 : n = m <;> by_cases h2 : r = q <;> simp [h1, h2]
theorem eqT_shaped (ns : List Int) : SeqAt.shaped (.tuple (ns.map PyData.int)) = true := by
  show (PyData.canLayAll0 (ns.map PyData.int) && decide (PyData.depthAll (ns.map PyData.int) + 1 ≤ 64)) = true
  rw [lay_ints, depth_ints]; rfl
theorem r_neIntsT {K : PySem.W.Frag} {H : Hp} {Q : VK} {a b : Addr} {ns ms : List Int} (h : SqT K H a (ns.map V.int)) (h' : SqT K H b (ms.map V.int)) (q : Q (.bl (!decide (ns = ms))) H) : rNeD K (.ref a) (.ref b) H Q :=
  ⟨_, _, .tup h (dp_ints ns), .tup h' (dp_ints ms), eqT_shaped ns, eqT_shaped ms, (show Q (.bl (!PyData.eqvAll (ns.map PyData.int) (ms.map PyData.int))) H by rw [eqv_ints]; exact q)⟩
theorem r_eqInts {K : PySem.W.Frag} {H : Hp} {Q : VK} {a b : Addr} {ns ms : List Int} (h : SqL K H a (ns.map V.int)) (h' : SqL K H b (ms.map V.int)) (q : Q (.bl (decide (ns = ms))) H) : rEqD K (.ref a) (.ref b) H Q :=
  ⟨_, _, .lst h (dp_ints ns), .lst h' (dp_ints ms), shaped_ints ns, shaped_ints ms, (show Q (.bl (PyData.eqvAll (ns.map PyData.int) (ms.map PyData.int))) H by rw [eqv_ints]; exact q)⟩
theorem r_neInts {K : PySem.W.Frag} {H : Hp} {Q : VK} {a b : Addr} {ns ms : List Int} (h : SqL K H a (ns.map V.int)) (h' : SqL K H b (ms.map V.int)) (q : Q (.bl (!decide (ns = ms))) H) : rNeD K (.ref a) (.ref b) H Q :=
  ⟨_, _, .lst h (dp_ints ns), .lst h' (dp_ints ms), shaped_ints ns, shaped_ints ms, (show Q (.bl (!PyData.eqvAll (ns.map PyData.int) (ms.map PyData.int))) H by rw [eqv_ints]; exact q)⟩
theorem inV_strs {z : Str} : ∀ zs : List Str, inV (.str z) (zs.map V.str) = decide (z ∈ zs)
  | [] => by simp [inV]
  | y :: r => by
    have ih := inV_strs (z := z) r
    unfold inV at ih ⊢
    rw [List.map_cons, List.any_cons, ih]
    show (decide (y = z) || decide (z ∈ r)) = decide (z ∈ y :: r)
    by_cases e : y = z
    · subst e; simp
    · have e' : ¬ z = y := fun q => e q.symm
      simp [e, e']
theorem inV_ints {z : Int} : ∀ zs : List Int, inV (.int z) (zs.map V.int) = decide (z ∈ zs)
  | [] => by simp [inV]
  | y :: r => by
    have ih := inV_ints (z := z) r
    unfold inV at ih ⊢
    rw [List.map_cons, List.any_cons, ih]
    show ((y == z) || decide (z ∈ r)) = decide (z ∈ y :: r)
    by_cases e : y = z
    · subst e; simp
    · have e' : ¬ z = y := fun q => e q.symm
      simp [e, e']
theorem flat_ints : ∀ zs : List Int, (zs.map V.int).all flatV = true
  | [] => rfl
  | y :: r => by rw [List.map_cons, List.all_cons, flat_ints r]; rfl
theorem r_notInI {K : PySem.W.Frag} {H : Hp} {Q : VK} {p : Addr} {z : Int} {zs : List Int} (h : SqL K H p (zs.map V.int) ∨ SqT K H p (zs.map V.int)) (q : Q (.bl (!decide (z ∈ zs))) H) : rIn K true (.int z) (.ref p) H Q :=
  ⟨p, _, rfl, h, rfl, flat_ints zs, (show Q (.bl (!inV (.int z) (zs.map V.int))) H by rw [inV_ints]; exact q)⟩
theorem r_inI {K : PySem.W.Frag} {H : Hp} {Q : VK} {p : Addr} {z : Int} {zs : List Int} (h : SqL K H p (zs.map V.int) ∨ SqT K H p (zs.map V.int)) (q : Q (.bl (decide (z ∈ zs))) H) : rIn K false (.int z) (.ref p) H Q :=
  ⟨p, _, rfl, h, rfl, flat_ints zs, (show Q (.bl (inV (.int z) (zs.map V.int))) H by rw [inV_ints]; exact q)⟩
theorem flat_strs : ∀ zs : List Str, (zs.map V.str).all flatV = true
  | [] => rfl
  | y :: r => by rw [List.map_cons, List.all_cons, flat_strs r]; rfl
theorem r_notInS {K : PySem.W.Frag} {H : Hp} {Q : VK} {p : Addr} {z : Str} {zs : List Str} (h : SqL K H p (zs.map V.str) ∨ SqT K H p (zs.map V.str)) (q : Q (.bl (!decide (z ∈ zs))) H) : rIn K true (.str z) (.ref p) H Q :=
  ⟨p, _, rfl, h, rfl, flat_strs zs, (show Q (.bl (!inV (.str z) (zs.map V.str))) H by rw [inV_strs]; exact q)⟩
theorem r_inS {K : PySem.W.Frag} {H : Hp} {Q : VK} {p : Addr} {z : Str} {zs : List Str} (h : SqL K H p (zs.map V.str) ∨ SqT K H p (zs.map V.str)) (q : Q (.bl (decide (z ∈ zs))) H) : rIn K false (.str z) (.ref p) H Q :=
  ⟨p, _, rfl, h, rfl, flat_strs zs, (show Q (.bl (inV (.str z) (zs.map V.str))) H by rw [inV_strs]; exact q)⟩
/-! ### heaps -/
theorem upd_new {H : Hp} {a p : Addr} {o u : HO} (hn : H p = none) (h : H a = some u) : upd H p o a = some u := by rw [upd_ne (ne_of_none h hn)]; exact h
theorem same_new {H : Hp} {p : Addr} {o : HO} (hn : H p = none) : Same H (upd H p o) := fun _ _ e => upd_new hn e
theorem Same.up {H H' : Hp} {a : Addr} {o : HO} (s : Same H H') (h : H a = some o) : H' a = some o := s a o h
theorem same_mut {H H' : Hp} {p : Addr} {o : HO} (s : Same H H') (hn : H p = none) : Same H (upd H' p o) := fun _ _ e => by rw [upd_ne (ne_of_none e hn)]; exact s _ _ e
theorem same_seqT {K : PySem.W.Frag} {H H' : Hp} {a : Addr} {xs : List V} (e : Same H H') (h : SqT K H a xs) : SqT K H' a xs := by
  rcases h with (h | ⟨o, h⟩) | h
  · exact .inl (.inl (e _ _ h))
  · exact .inl (.inr ⟨o, e _ _ h⟩)
  · exact .inr h
theorem small1000' {n : Nat} (h : n ≤ 10000) : n < sizeLine := Nat.lt_of_le_of_lt h (by decide)
/-- a comprehension whose test and element are pure -/
theorem lc_all {J : It} {n : Nat} {G : Hp → Prop} {Y : Nat → Hp → V → Hp → Prop} (wk : Walk J n G Y) {tt : TT} {te : TE} {vs : List Nat} {σ : L2.St} {H1 : Hp} {Q : VK} {j : Nat} (yv : Nat → V) (f : Nat → Bool) (v : Nat → V) (hn : n ≤ 10000)
    (hY : ∀ i H x H', i < n → Y i H x H' → H' = H ∧ x = yv i) (hG : ∀ H', Same H1 H' → G H') (hw : ∀ x, wipe ((wipe σ vs).set j (some x)) vs = wipe σ vs)
    (ht : ∀ i H', i < n → Same H1 H' → ∀ QT : Bool → Hp → Prop, (∀ H2, Same H' H2 → QT (f i) H2) → tt ((wipe σ vs).set j (some (yv i))) H' QT)
    (he : ∀ i H', i < n → f i = true → Same H1 H' → ∀ Q : VK, (∀ H2, Same H' H2 → Q (v i) H2) → te ((wipe σ vs).set j (some (yv i))) H' Q)
    (hd : ∀ D H', H1 D = none → Same H1 H' → H' D = some (.lst (Evl.given n f v)) → Q (.ref D) H') :
    LcW J (gName j) tt te vs σ H1 Q := by
  intro D hD
  refine lc_it wk (Qd := fun H => Q (.ref D) H) (fun i H => Same H1 H ∧ H D = some (.lst (Evl.given i f v))) ⟨same_new hD, upd_same⟩ (fun i H _ p => hG H p.1) (fun i x H H' hi p y => ?_) (fun H p => hd D H hD p.1 p.2)
  obtain ⟨rfl, rfl⟩ := hY i H x H' hi y
  refine ⟨hw _, ?_⟩
  refine ht i _ hi p.1 _ fun H2 s2 => ?_
  cases e : f i with
  | true =>
    refine iteT ?_
    refine he i H2 hi e (p.1.trans s2) _ fun H3 s3 => ?_
    refine ⟨_, s3 _ _ (s2 _ _ p.2), small1000' (Nat.le_trans (Evl.given_len i f v) (by omega)), same_mut ((p.1.trans s2).trans s3) hD, ?_⟩
    rw [upd_same, Evl.given_yes e]
  | false =>
    refine iteF ?_
    refine ⟨p.1.trans s2, ?_⟩
    rw [s2 _ _ p.2, Evl.given_no e]
theorem range_get {α : Type} (xs : List α) (d : α) : (List.range xs.length).map (fun i => xs.getD i d) = xs := by
  refine List.ext_getElem (by simp) fun i h1 h2 => ?_
  simp [List.getElem?_eq_getElem h2]
theorem given_filter {α : Type} (xs : List α) (d : α) (p : α → Bool) (g : α → V) : Evl.given xs.length (fun i => p (xs.getD i d)) (fun i => g (xs.getD i d)) = (xs.filter p).map g := by
  unfold Evl.given
  have e := range_get xs d
  have h2 : (List.range xs.length).filter (fun i => p (xs.getD i d)) = (List.range xs.length).filter (p ∘ fun i => xs.getD i d) := rfl
  have h3 : ((List.range xs.length).filter (p ∘ fun i => xs.getD i d)).map (g ∘ fun i => xs.getD i d) = (xs.filter p).map g := by
    rw [← List.map_map, ← List.filter_map, e]
  exact h3
theorem given_map {α : Type} (xs : List α) (d : α) (g : α → V) : Evl.given xs.length (fun _ => true) (fun i => g (xs.getD i d)) = xs.map g := by
  have h := given_filter xs d (fun _ => true) g
  rw [List.filter_eq_self.mpr (fun _ _ => rfl)] at h
  exact h
theorem atI_map {α : Type} {xs : List α} {g : α → V} {r : Int} (h0 : 0 ≤ r) (h1 : r < (xs.length : Int)) : ∃ x ∈ xs, atI (xs.map g) r = some (g x) := by
  obtain ⟨n, rfl⟩ : ∃ n : Nat, r = (n : Int) := ⟨r.toNat, by omega⟩
  have hl : n < xs.length := by omega
  refine ⟨xs[n], List.getElem_mem hl, ?_⟩
  exact atI_nat (by simp [hl])
theorem YAt_get {α : Type} {xs : List α} {d : α} {g : α → V} {i : Nat} {H : Hp} {x : V} {H' : Hp} (hi : i < (xs.map g).length) (y : YAt (xs.map g) i H x H') : H' = H ∧ x = g (xs.getD i d) := by
  obtain ⟨rfl, e⟩ := y
  refine ⟨rfl, ?_⟩
  have hl : i < xs.length := by simpa using hi
  rw [List.getElem?_map, List.getElem?_eq_getElem hl] at e
  have e' : g xs[i] = x := Option.some.inj e
  rw [← e', List.getD_eq_getElem?_getD, List.getElem?_eq_getElem hl]
  rfl
theorem r_isiS {K : PySem.W.Frag} {H : Hp} {Q : VK} {z : Str} (q : Q (.bl true) H) : rIsi K [.str z, .ty "str"] H Q := ⟨_, _, .type "str", _, _, rfl, .ty _, .base (.str z), kit_ty (by decide +kernel), q⟩
theorem cutV_take (xs : List V) (n : Nat) : cutV xs none (some (n : Int)) = xs.take n := by
  unfold cutV
  rw [HT.sIx_none, HT.sIx_nat]
  simp only [List.drop_zero, Nat.sub_zero]
  by_cases h : n ≤ xs.length
  · rw [Nat.min_eq_left h]
  · rw [Nat.min_eq_right (by omega), List.take_length, List.take_of_length_le (by omega)]
theorem decI {a b : Int} : decide (V.int a = V.int b) = decide (a = b) := by
  by_cases h : a = b
  · rw [h]; simp
  · rw [decide_eq_false h, decide_eq_false fun z => h (V.int.inj z)]
theorem decS {a b : Str} : decide (V.str a = V.str b) = decide (a = b) := by
  by_cases h : a = b
  · rw [h]; simp
  · rw [decide_eq_false h, decide_eq_false fun z => h (V.str.inj z)]
/-- a list of truths made by a comprehension -/
theorem given_bl {α : Type} (xs : List α) (d : α) (p : α → Bool) : Evl.given xs.length (fun _ => true) (fun i => V.bl (p (xs.getD i d))) = (xs.map p).map V.bl := by
  rw [given_map xs d (fun x => V.bl (p x)), List.map_map]
  rfl
theorem given_int {α : Type} (xs : List α) (d : α) (p : α → Int) : Evl.given xs.length (fun _ => true) (fun i => V.int (p (xs.getD i d))) = (xs.map p).map V.int := by
  rw [given_map xs d (fun x => V.int (p x)), List.map_map]
  rfl
theorem all_id {α : Type} (xs : List α) (p : α → Bool) : (xs.map p).all id = xs.all p := by
  rw [List.all_map]
  rfl
def optV : Option Int → V
  | none => .non
  | some i => .int i
theorem strEq {a b : Str} (h : V.str a = V.str b) : a = b := V.str.inj h
theorem strNe {a b : Str} (h : ¬ V.str a = V.str b) : ¬ a = b := fun z => h (by rw [z])
theorem intEq {a b : Int} (h : V.int a = V.int b) : a = b := V.int.inj h
theorem intNe {a b : Int} (h : ¬ V.int a = V.int b) : ¬ a = b := fun z => h (by rw [z])
theorem r_iteS2 {a b : Str} {A B : Prop} (h1 : a = b → A) (h2 : ¬ a = b → B) : if decide (V.str a = V.str b) = true then A else B := r_ite2 (fun h => h1 (strEq h)) (fun h => h2 (strNe h))
theorem r_iteI2 {a b : Int} {A B : Prop} (h1 : a = b → A) (h2 : ¬ a = b → B) : if decide (V.int a = V.int b) = true then A else B := r_ite2 (fun h => h1 (intEq h)) (fun h => h2 (intNe h))
theorem r_iteB {b : Bool} {A B : Prop} (h1 : b = true → A) (h2 : b = false → B) : if b = true then A else B := by
  cases b
  · exact iteF (h2 rfl)
  · exact iteT (h1 rfl)
theorem r_iteBN {b : Bool} {A B : Prop} (h1 : b = false → A) (h2 : b = true → B) : if (!b) = true then A else B := by
  cases b
  · exact iteT (h1 rfl)
  · exact iteF (h2 rfl)
theorem val_to {Q : VK} {v v' : V} {H : Hp} (z : Q v H) (e : v = v') : Q v' H := e ▸ z
theorem r_isiO {K : PySem.W.Frag} {H : Hp} {Q : VK} {o : Option Int} (q : Q (.bl false) H) : rIsi K [optV o, .ty "bool"] H Q := by
  cases o with
  | none => exact ⟨_, _, .type "NoneType", _, _, rfl, .ty _, .base .non, kit_ty (by decide +kernel), q⟩
  | some i => exact ⟨_, _, .type "int", _, _, rfl, .ty _, .base (.int i), kit_ty (by decide +kernel), q⟩
theorem r_neO {H : Hp} {Q : VK} {o : Option Int} (q : Q (.bl false) H) : rNe (optV o) (optV o) H Q := by
  refine ⟨by cases o <;> rfl, ?_⟩
  rw [decide_eq_true rfl]
  exact q
theorem r_isNone {B : Prop} (q : B) : V.non = V.non ∧ B := ⟨rfl, q⟩
theorem r_neB {H : Hp} {Q : VK} {b : Bool} (q : Q (.bl false) H) : rNe (.bl b) (.bl b) H Q := by
  refine ⟨rfl, ?_⟩
  rw [decide_eq_true rfl]
  exact q
theorem putF_le (f : Str) (v : V) : ∀ fs : List (Str × V), (putF f v fs).length ≤ fs.length + 1
  | [] => Nat.le_refl _
  | (g, x) :: r => by
    unfold putF
    split
    · simp
    · have := putF_le f v r
      simp only [List.length_cons]
      omega
theorem putF_lt {f : Str} {v : V} {fs : List (Str × V)} {n m : Nat} (h : fs.length + (n + 1) < m) : (putF f v fs).length + n < m := by
  have := putF_le f v fs
  omega
theorem putF_lt0 {f : Str} {v : V} {fs : List (Str × V)} {m : Nat} (h : fs.length + 1 < m) : (putF f v fs).length < m := putF_lt (n := 0) h
theorem sz_lit {n : Nat} (h : n ≤ 1000) : n ≤ sizeLine := Nat.le_of_lt (small1000 h)
end KB

/-! KG: own layer: defs called while no repr is under way (A.guards = some []); repr of data. -/
namespace KG
open PySem PySem.Spec PyProof.Rows L2 KB
abbrev Free (A : Around) : Prop := A.guards = some []
theorem free_deeper {A : Around} (g : Free A) (env : Env) : Free (A.deeper env) := g
/-- as FnOk, asked only where no repr is under way -/
structure FnG (P : Program) (w : World) (K : PySem.W.Frag) (mg : Str → Option Value) (base : Heap) (CX : CXT) (k : Nat) (f : Addr) (fd : FuncData) (ps : List Str) (sp : Sp) : Prop where
  size : ∀ xs h Z W, sp xs h Z W → xs.length = ps.length
  go : ∀ (A : Around), Free A → ∀ (out : List Env) (st : Shared) (h : Hp) (ar : Args) (ws : List Value) (xs : List V) (Z : VK) (W : XK), Room k A → Env0 P w K mg base A out st h → BindsTo st fd ar (ps.zip ws) → Vals xs ws → sp xs h Z W →
    codeAny (model P w) A (.call (.ref f) ar) (CR CX out P w h st Z W) st
theorem FnG.of {P : Program} {w : World} {K : PySem.W.Frag} {mg : Str → Option Value} {base : Heap} {CX : CXT} {k : Nat} {f : Addr} {fd : FuncData} {ps : List Str} {sp : Sp} (F : FnOk P w K mg base CX k f fd ps sp) : FnG P w K mg base CX k f fd ps sp :=
  ⟨F.len, fun A _ => F.run A⟩
section
variable {P : Program} {w : World} {K : PySem.W.Frag} {mg : Str → Option Value} {base : Heap} {CX : CXT}
theorem fnG_body {k : Nat} {f : Addr} {nm ql : Str} {pr : Arguments} {bd : List Stmt} {sc : Scope} {v1 v2 v3 v4 cv v5 v6 : Value} {a1 a2 : Option Addr} {slots : Array (Option Value)} {N ps : List Str} {sp : Sp}
    (look : K.lookup f = some ⟨v6, a2, .func (PySem.W.fnOf nm ql pr bd sc v1 v2 v3 v4 a1 cv v5), slots⟩) (code : PySem.W.codeIn K cv ql = true) (S : FnScope N ps sc) (size : ∀ xs h Z W, sp xs h Z W → xs.length = ps.length)
    (body : ∀ (A : Around) (out : List Env) (st : Shared) (h : Hp) (xs : List V) (Z : VK) (W : XK), Room k (A.deeper (envOfC ql sc st.heap.objs.size f cv)) → Free A → sp xs h Z W →
      ∃ t, PSs (cxOf CX P w K mg base N ql sc f cv A out st h W) bd t ∧ t { nx := fun _ h' => Z .non h', rt := Z } (start N xs) h) :
    FnG P w K mg base CX (k + 1) f (PySem.W.fnOf nm ql pr bd sc v1 v2 v3 v4 a1 cv v5) ps sp := by
  refine ⟨size, fun A fr out st h ar ws xs Z W room env bind vals pre => ?_⟩
  have kin : K.In st.heap := env.mod.kin.keeps fun b o q => (env.bs b o q).1
  have nolim : st.heap.NoLimit := env.mod.nolimit.keeps fun b o q => (env.bs b o q).1
  have kinds : ∀ y ∈ ps.zip ws, sc.names.lookup y.1 = some .local ∨ (sc.names.lookup y.1 = some .cell ∧ ((cellsFrom (st.heap.objs.size + 1) sc.names []).lookup y.1).isSome = true) := by
    intro y hy
    obtain ⟨n, v⟩ := y
    cases S.par n (List.of_mem_zip hy).1 with
    | inl z => exact .inl z
    | inr z => exact .inr ⟨z, PySem.W.cellsFrom_some _ _ _ (.inl z)⟩
  refine codeAny_call_function room.depth (kin _ _ look) rfl S.co S.gen rfl (PySem.W.codeRec_of kin code) (bind _ _ _ _ ?_)
  refine wpAny_newFunctionEnv_cells S.kind kinds fun en he st1 inc => ?_
  subst he
  refine ⟨nolim.keeps inc.toInCall.keep, codeAny_func ?_⟩
  obtain ⟨t, drv, rdg⟩ := body A out st h xs Z W (room.deeper _) fr pre
  have inv : Inv (cxOf CX P w K mg base N ql sc f cv A out st h W) [] (start N xs) h st1 := inv_start S room.hd env (size _ _ _ _ pre) vals inc
  refine wpAny_mono (drv.run [] st1 (start N xs) h _ inv rdg) (fun flow st2 res => ?_) fun _ _ z => z
  cases flow with
  | ret u => exact let ⟨v, _, h2, J, rel, z⟩ := res; ⟨v, h2, J.os, J.bare, J.base, J.hok, rel, z⟩
  | next => exact let ⟨_, h2, J, z⟩ := res; ⟨.non, h2, J.os, J.bare, J.base, J.hok, rfl, z⟩
  | brk => exact (let ⟨_, _, _, z⟩ := res; z : False).elim
  | cont => exact (let ⟨_, _, _, z⟩ := res; z : False).elim
/-- the rule for a def of the text, nothing raised out of it -/
theorem fun_okG {x ql : Str} {stm : Stmt} {f : Addr} {fd : FuncData} {N ps : List Str} {k : Nat} {sp : Sp} (F : Fun K x ql stm f fd) (S : FnScope N ps (defScope stm)) (size : ∀ xs h Z W, sp xs h Z W → xs.length = ps.length)
    (body : ∀ (cv : Value) (A : Around) (out : List Env) (st : Shared) (h : Hp) (xs : List V) (Z : VK) (W : XK), Room k (A.deeper (envOfC ql (defScope stm) st.heap.objs.size f cv)) → Free A → sp xs h Z W →
      ∃ t, PSs (cxOf CX0 P w K mg base N ql (defScope stm) f cv A out st h W).nox (defBody stm) t ∧ t { nx := fun _ h' => Z .non h', rt := Z } (start N xs) h) : FnG P w K mg base CX0 (k + 1) f fd ps sp := by
  obtain ⟨c1, c2, c3, c4, c5, c6, cv, c8, c9, rfl, look, code⟩ := F.ex
  refine fnG_body look code S size fun A out st h xs Z W room fr pre => ?_
  obtain ⟨t, drv, rdg⟩ := body cv A out st h xs Z W room fr pre
  exact ⟨t, drv.nox, rdg⟩
end
/-! ### calls -/
section
variable {X : Cx} {CX : CXT}
theorem runG {k : Nat} {f : Addr} {fd : FuncData} {ps : List Str} {sp : Sp} {E : XK} {dv : List V} {dw : List Value} {pins : List (Addr × Obj)} {σ : L2.St} {h : Hp} {st : Shared} {Z : VK} {ws : List Value} {xs : List V} (F : FnG X.prog X.w X.K X.mg X.base CX k f fd ps sp) (fr : Free X.A) (room : Room k X.A)
    (bind : Binds X.K fd ps dw) (dr : Vals dv dw) (pass : Passes CX X E) (inv : Inv X pins σ h st) (rel : Vals xs ws) (pre : sp (xs ++ dv) h Z E) : wpAny (model X.prog X.w) X.A (call (.ref f) ws) (EP X pins σ Z) X.xe st := by
  have rel2 := rel.append dr
  have size : (ws ++ dw).length = ps.length := rel2.length.symm.trans (F.size _ _ _ _ pre)
  refine wpAny_call (codeAny_mono (F.go X.A fr X.stack st h ⟨ws, []⟩ _ _ Z E room inv.env0 (bind st ws inv.kIn size) rel2 pre) fun res st2 z => ?_)
  match res, z with
  | .error e, z => exact pass pins σ h st e st2 inv z
  | .ok (.ret u), z => exact inv.after z
  | .ok .next, z => exact z.elim
  | .ok .brk, z => exact z.elim
  | .ok .cont, z => exact z.elim
structure CalleeG (P : Program) (w : World) (K : PySem.W.Frag) (mg : Str → Option Value) (base : Heap) (CX : CXT) (k : Nat) (x : Str) (ps : List Str) (sp : Sp) : Prop where
  ex : ∃ (f : Addr) (fd : FuncData), FnG P w K mg base CX k f fd ps sp ∧ mg x = some (.ref f) ∧ PySem.W.keepIn K (.ref f) = true ∧ Binds K fd ps []
theorem pe_callG {k : Nat} {x : Str} {ps : List Str} {sp : Sp} {E : XK} {e : Expr} {es : List Expr} {p pos : Pos} {t : TA} (c : CalleeG X.prog X.w X.K X.mg X.base CX k x ps sp) (fr : Free X.A) (room : Room k X.A) (gl : Gl X x) (pass : Passes CX X E) (ha : PA X (e :: es) t)
    (d1 : (x == ("__debug__" : Str)) = false := by decide) (d2 : starEach (e :: es) X.env = (false, eval e X.env) :: starEach es X.env := by rfl) (d3 : (backTo pos (starEach es X.env)).any (·.1) = false := by rfl) :
    PE X (.Call (.Name x p) (e :: es) [] pos) (tCall sp [] E t) := by
  obtain ⟨f, fd, F, look, keep, bind⟩ := c.ex
  refine ⟨fun pins st σ h Z inv pre => wpAny_Call_Name_kw (ld_glob inv gl look ?_ d1)⟩
  refine PySem.W.callWith_K (h₀ := X.base) inv.ok.mod.kin keep (thn (ha.run pos pins st σ h _ inv pre) fun ws st1 res => ?_) d2 d3
  obtain ⟨xs, h1, inv1, rel, z⟩ := res
  exact ⟨inv1.kIn, runG F fr room bind .nil pass inv1 rel z⟩
end
/-! ### repr of data -/
section
variable {P : Program} {w : World} {A : Around} {E : Value → Shared → Prop} {s : Shared} {Z : Value → Shared → Prop}
theorem repr_slot {v : Value} {T id : String} (hu : A.units + 2 < cLine) (ty : s.TypeIs v T) (slot : SlotG T "__repr__" id)
    (h : wpAny (model P w) A.in1 (callSpecialIfBound? v (Str.ofString "__repr__")) (fun r st => ∃ (y : Str) (u : Tok), r = some (.str y u) ∧ Z (.str y u) st) E s) : wpAny (model P w) A (call (.builtin "repr") [v]) Z E s := by
  refine (Calls.call_function_entry F.kind_repr F.plain_repr F.entry_repr (F.args_repr1 _) ?_); unfold Builtin.«repr»
  refine (wpAny_bind (m := oneArg "repr" _) (wpAny_pure ?_))
  refine (wpAny_bind (wpAny_cRoomFor (show A.units + 1 < cLine by omega) ?_))
  refine (wpAny_bind (wpAny_specialOf (name := Str.ofString "__repr__") ty slot.lookup ?_))
  refine (wpAny_bind (m := callSpecialIfBound? v (Str.ofString "__repr__")) (wpAny_mono h (fun r st z => ?_) fun _ _ z => z))
  obtain ⟨y, u, rfl, z⟩ := z
  refine (wpAny_bind (wpAny_isInstance (T := "str") (b := true) rfl isSubtype_str_str ?_))
  exact (wpAny_pure ⟨.str y u, rfl, z⟩)
theorem repr_data {v : Value} {d : PyData} {as : List Addr} (r : Reads s.heap v d as) (ok : d.showable = true) (nod : d.hasDict = false) (sz : d.shown.length ≤ sizeLine) (fr : Free A) (hu : A.units + d.depth + 3 < cLine)
    (q : ∀ h' u tk, (∀ b o, s.heap.get? b = some o → h'.get? b = some o) → Z (.str d.shown u) { s with heap := h', toks := tk }) : wpAny (model P w) A (call (.builtin "repr") [v]) Z E s := by
  have nosys : d.hasDict = true → sysModules ∉ as := fun z => by rw [nod] at z; cases z
  cases r with
  | none =>
    simp only [PyData.shown] at q
    exact PySem.P.repr_of_none (q s.heap _ _ fun _ _ e => e)
  | bool b =>
    simp only [PyData.shown] at q
    exact PySem.P.repr_of_bool (q s.heap _ _ fun _ _ e => e)
  | int i t =>
    simp only [PyData.shown] at q
    exact PySem.P.repr_of_int (by simpa [PyData.showable] using ok) (q s.heap _ _ fun _ _ e => e)
  | str x t =>
    simp only [PyData.shown] at q sz
    exact PySem.P.repr_of_str (q s.heap _ _ fun _ _ e => e) sz
  | @list a o vs n xs as1 h1 h2 h3 h4 =>
    have sz' : (listText (PyData.shownAll xs)).length ≤ sizeLine := by simpa only [PyData.shown] using sz
    have ok' : PyData.showableAll xs = true := by simpa [PyData.showable] using ok
    have whole : Reads s.heap (.ref a) (.list xs) _ := .list h1 h2 h3 h4
    obtain ⟨bs, lim, kids⟩ := ReprAllK.of_readsAll (prog := P) (w := w) h4 ok' (fun z m => nosys (by simpa [PyData.hasDict] using z) (List.mem_cons_of_mem _ m)) (fun t ht => Nat.le_trans (listText_mem_le ht) sz')
    have off : a ∉ bs := not_mem_of_deeper whole (by simp only [PyData.depth]; omega) lim
    simp only [PyData.depth] at hu
    simp only [PyData.shown] at q
    have ty : s.TypeIs (.ref a) "list" := ⟨_, h1, h2⟩
    refine repr_slot (by omega) ty F.slot_list_repr.toG ?_
    obtain ⟨l⟩ := vs
    cases l with
    | nil =>
      have h4' : ReadsAll s.heap [] xs _ := h4
      cases h4'
      simp only [PyData.shownAll, listText_nil] at q
      refine (wpAny_callSpecialIfBound?_slot (name := Str.ofString "__repr__") ty F.slot_list_repr (call_list_repr_empty ty h1 h3 ?_))
      exact ⟨_, _, rfl, q s.heap _ _ fun _ _ e => e⟩
    | cons x l =>
      refine (wpAny_callSpecialIfBound?_slot (name := Str.ofString "__repr__") ty F.slot_list_repr (call_list_reprK h1 h2 h3 off (by simpa using kids.length_eq) (fun i y e => kids.item i y (by simpa using e)) fr (fun b _ => Clear.nil b) (show A.units + 1 + _ < cLine by omega) (fun _ _ e => e) (fun h' u tk kp => ?_) sz'))
      exact ⟨_, _, rfl, q h' u tk kp⟩
  | @tuple a o vs n xs as1 h1 h2 h3 h4 =>
    have sz' : (tupleText (PyData.shownAll xs)).length ≤ sizeLine := by simpa only [PyData.shown] using sz
    have ok' : PyData.showableAll xs = true := by simpa [PyData.showable] using ok
    have whole : Reads s.heap (.ref a) (.tuple xs) _ := .tuple h1 h2 h3 h4
    obtain ⟨bs, lim, kids⟩ := ReprAllK.of_readsAll (prog := P) (w := w) h4 ok' (fun z m => nosys (by simpa [PyData.hasDict] using z) m) (fun t ht => Nat.le_trans (tupleText_mem_le ht) sz')
    have off : a ∉ bs := not_mem_of_deeper whole (by simp only [PyData.depth]; omega) lim
    simp only [PyData.depth] at hu
    simp only [PyData.shown] at q
    have ty : s.TypeIs (.ref a) "tuple" := ⟨_, h1, h2⟩
    refine repr_slot (by omega) ty F.slot_tuple_repr ?_
    refine (wpAny_callSpecialIfBound?_slotG (name := Str.ofString "__repr__") ty F.slot_tuple_repr (call_tuple_reprK h1 h2 h3 off kids fr (fun b _ => Clear.nil b) (show A.units + 1 + _ < cLine by omega) (fun _ _ e => e) (fun h' u tk kp => ?_) sz'))
    exact ⟨_, _, rfl, q h' u tk kp⟩
  | dict => simp [PyData.hasDict] at nod
end
section
variable {X : Cx}
theorem vals_one {x : V} {us : List Value} (r : Vals [x] us) : ∃ u, us = [u] ∧ RelV x u := by
  cases r with
  | cons h t => cases t; exact ⟨_, rfl, h⟩
def rRepr (K : PySem.W.Frag) : List V → Hp → VK → Prop := fun xs H Q => ∃ (v : V) (d : PyData), xs = [v] ∧ Dp K H v d ∧ d.showable = true ∧ d.hasDict = false ∧ d.depth ≤ 60 ∧ d.shown.length ≤ sizeLine ∧ Q (.str d.shown) H
theorem call_reprD {k : Nat} (fr : Free X.A) (room : Room k X.A) : CallR X (.builtin "repr") (rRepr X.K) := by
  intro pins st σ h xs us Z inv rel pre
  obtain ⟨v, d, rfl, dp, ok, nod, deep, sz, z⟩ := pre
  obtain ⟨u, rfl, rv⟩ := vals_one rel
  obtain ⟨as, rd⟩ := Dp.reads inv d v u dp rv
  refine repr_data rd ok nod sz fr (by have := room.un; omega) fun h' t tk kp => ?_
  exact ⟨.str d.shown, h, inv.kept kp, ⟨t, rfl⟩, z⟩
end
/-! ### the law's end -/
theorem law_G {P : Program} {w : World} {K : PySem.W.Frag} {mg bm : Str → Option Value} {k : Nat} {fa a : Addr} {fd : FuncData} {x : Str} {sp : Sp} {st : Shared} {us : List Value} {ns : List Int}
    (kin : K.In st.heap) (gl : st.heap.Ns mainGlobals mg) (bl : st.heap.Ns builtinsNs bm) (bb : ∀ y : Str, y ≠ "__name__" → bm y = bootBuiltins y) (nolim : st.heap.NoLimit) (nogen : st.gens = #[])
    (at_ : st.heap.get? a = some { cls := .type "list", data := .seq us.toArray }) (allInt : IntsAre us ns) (few : ns.length ≤ sizeLine) (room : Room k callerA)
    (F : ∀ base : Heap, K.In base → base.Ns mainGlobals mg → FnG P w K mg base CX0 k fa fd [x] sp) (bind : ∀ (s : Shared) (u : Value), BindsTo s fd ⟨[u], []⟩ [(x, u)])
    (pre : ∀ H : Hp, SqL K H a (ns.map V.int) → sp [.ref a] H (fun v _ => v = .bl true) fun _ _ _ => False) :
    codeAny (model P w) callerA (.call (.ref fa) ⟨[.ref a], []⟩) (fun r s2 => r = .ok (.ret (.bool true)) ∧ OldK st.heap s2.heap ∧ s2.os = st.os ∧ AllBare s2.gens) st := by
  have main : ∀ H : Hp, (∀ b, H b = none ∨ ∃ o ys, H b = some (.frz o (.lst ys))) → SqL K H a (ns.map V.int) → HOk P w H st.heap → (∀ b, H b ≠ none → b = a) → (H a ≠ none → K.lookup a = none) →
      codeAny (model P w) callerA (.call (.ref fa) ⟨[.ref a], []⟩) (fun r s2 => r = .ok (.ret (.bool true)) ∧ OldK st.heap s2.heap ∧ s2.os = st.os ∧ AllBare s2.gens) st := by
    intro H only sq hok isA noK
    have free_of : ∀ {b : Addr} {o : Obj}, st.heap.get? b = some o → (∀ ys m, o.data ≠ .seq ys m) → H b = none := by
      intro b o e nd
      cases q : H b with
      | none => rfl
      | some z =>
        have eb := isA b (by rw [q]; simp)
        rw [eb, at_] at e
        exact absurd (congrArg Obj.data (Option.some.inj e)).symm (nd _ _)
    have kb : K.In (hidT st.heap H) := by
      intro b o e
      refine hidT_get (kin b o e) ?_
      cases q : H b with
      | none => rfl
      | some z =>
        have eb := isA b (by rw [q]; simp)
        rw [eb] at e q
        rw [noK (by rw [q]; simp)] at e
        cases e
    have ns_of : ∀ {b : Addr} {m : Str → Option Value}, st.heap.Ns b m → (hidT st.heap H).Ns b m := by
      intro b m h
      obtain ⟨o, es, ep, e, d, r⟩ := h
      exact ⟨o, es, ep, hidT_get e (free_of e (fun ys n z => by rw [d] at z; cases z)), d, r⟩
    have hm : Mod K mg (hidT st.heap H) := ⟨kb, ns_of gl, ⟨bm, ns_of bl, bb⟩, by obtain ⟨mc, z1, z2⟩ := nolim; exact ⟨mc, ns_of z1, z2⟩⟩
    have env : Env0 P w K mg (hidT st.heap H) callerA [] st H := ⟨rfl, hm, fun b o e => of_hidT e, Nat.le_of_eq (hidT_size _ _), trivial, fun b z => (List.not_mem_nil z).elim, hok, .of_eq nogen⟩
    refine codeAny_mono ((F _ kb (ns_of gl)).go callerA rfl [] st H ⟨[.ref a], []⟩ [.ref a] [.ref a] _ _ room env (bind st (.ref a)) (.cons rfl .nil) (pre H sq)) fun res s2 z => ?_
    match res, z with
    | .error e, z => exact z.elim
    | .ok .next, z => exact z.elim
    | .ok .brk, z => exact z.elim
    | .ok .cont, z => exact z.elim
    | .ok (.ret u), z =>
      obtain ⟨v, H2, z1, z2, un, hok2, rel, rfl⟩ := z
      obtain rfl : u = Value.bool true := rel
      refine ⟨rfl, OldK.of_keep fun b o e => ?_, z1, z2⟩
      cases q : H b with
      | none => exact un.keep b o e q (fun y => List.not_mem_nil y) (fun y => List.not_mem_nil y)
      | some y =>
        rcases only b with y1 | ⟨o1, ys, y1⟩
        · rw [q] at y1; cases y1
        · have y2 := (hok b _ y1).1
          have y3 := (hok2 b _ (un.frzs b o1 _ y1)).1
          rw [e] at y2
          rw [Option.some.inj y2]
          exact y3
  have vals := vals_ints allInt
  have lens := allInt.length
  cases look : K.lookup a with
  | some o =>
    have e := kin a o look
    rw [at_] at e
    obtain rfl := Option.some.inj e
    exact main (fun _ => none) (fun _ => .inl rfl) (.inr ⟨_, us.toArray, _, look, rfl, rfl, rfl, by rw [List.size_toArray, lens]; exact few, by simpa using vals⟩) (fun _ _ z => nomatch z) (fun _ z => (z rfl).elim) (fun z => (z rfl).elim)
  | none =>
    refine main (upd (fun _ => none) a (.frz { cls := .type "list", data := .seq us.toArray } (.lst (ns.map V.int)))) (fun b => ?_) (.inl (.inr ⟨_, upd_same⟩)) (fun b y z => ?_) (fun b z => ?_) fun _ => look
    · by_cases eb : b = a
      · rw [eb, upd_same]; exact .inr ⟨_, _, rfl⟩
      · rw [upd_ne eb]; exact .inl rfl
    · by_cases eb : b = a
      · subst eb
        rw [upd_same] at z
        obtain rfl := Option.some.inj z
        exact ⟨at_, by rw [List.length_map]; exact few, us, _, vals, at_⟩
      · rw [upd_ne eb] at z; cases z
    · by_cases eb : b = a
      · exact eb
      · exact absurd (upd_ne eb) z
/-- the goal that the head leaves, from the law's own promise -/
theorem walkG {l : PySem.W.OpenLaw} {n k : Nat} {q : Program} {loose : List Str} {XP : (Str → Option Value) → Heap → Prop} {YP : World → Heap → Prop} {d : DefRec} {K : Params → PySem.W.Frag} {sp : World → Sp} {x : Str}
    (hn : l.most = some n) (n2 : n ≤ sizeLine) (nodef : d.params.defaults = []) (room : Room k callerA) (hY : ∀ (w : World) (h : Heap), YP w h → (K w.params).In h)
    (F : ∀ (w : World) (mg : Str → Option Value) (fa : Addr) (h : Heap), (K w.params).In h → h.Ns mainGlobals mg → mg d.name = some (.ref fa) →
      ∃ fd : FuncData, (∀ (s : Shared) (u : Value), BindsTo s fd ⟨[u], []⟩ [(x, u)]) ∧ ∀ base : Heap, (K w.params).In base → base.Ns mainGlobals mg → FnG l.prog w (K w.params) mg base CX0 k fa fd [x] (sp w))
    (pre : ∀ (w : World) (H : Hp) (a : Addr) (ns : List Int), ns.length ≤ n → SqL (K w.params) H a (ns.map V.int) → sp w [.ref a] H (fun v _ => v = .bl true) fun _ _ _ => False) :
    PySem.W.WalkO q loose XP YP l.row.toRowW d [] (fun f vs => PySem.call f vs) := by
  refine Att.attach_call hn nodef fun w s0 st mg bm fa o pm cd doc a us ns G Y ho hd hcd hmg hobj allInt size nogen => ?_
  obtain ⟨fd, bind, hF⟩ := F w mg fa _ (hY w _ Y) G.T.g hmg
  exact law_G (hY w _ Y) G.T.g G.T.b G.T.builtins G.T.nolimit nogen hobj allInt (Nat.le_trans size n2) room hF bind fun H sq => pre w H a ns size sq
end KG

/-! KO: own objects: methods called by keywords, own ==, != by own ==, str by own __str__. -/
namespace KO
open PySem PySem.Spec PyProof.Rows L2 KB
section
variable {X : Cx}
/-- a def run in another Around, nothing raised out of it -/
theorem run0 {A' : Around} {k : Nat} {f : Addr} {fd : FuncData} {ps : List Str} {sp : Sp} {pins : List (Addr × Obj)} {σ : L2.St} {h : Hp} {st : Shared} {Z : VK} {ws : List Value} {xs : List V} {E' : Value → Shared → Prop} (F : FnOk X.prog X.w X.K X.mg X.base CX0 k f fd ps sp) (room : Room k A')
    (env : Env0 X.prog X.w X.K X.mg X.base A' X.stack st h) (bind : Binds X.K fd ps []) (inv : Inv X pins σ h st) (rel : Vals xs ws) (pre : sp xs h Z E0) : wpAny (model X.prog X.w) A' (call (.ref f) ws) (EP X pins σ Z) E' st := by
  have size : (ws ++ []).length = ps.length := by rw [List.append_nil, ← rel.length]; exact F.len _ _ _ _ pre
  have bd := bind st ws inv.kIn size
  rw [List.append_nil] at bd
  refine wpAny_call (codeAny_mono (F.run A' X.stack st h ⟨ws, []⟩ _ _ Z E0 room env bd rel pre) fun res st2 z => ?_)
  match res, z with
  | .error e, z => exact z.elim
  | .ok (.ret u), z => exact inv.after z
  | .ok .next, z => exact z.elim
  | .ok .brk, z => exact z.elim
  | .ok .cont, z => exact z.elim
theorem inst_of {pins : List (Addr × Obj)} {σ : L2.St} {h : Hp} {st : Shared} {a C dx : Addr} {fs : List (Str × V)} (inv : Inv X pins σ h st) (e : h a = some (.ins C dx fs)) : ∃ od, PySem.W.InstAt st.heap a (PySem.W.instObj C dx) C (some od) := by
  obtain ⟨mA, O, _⟩ := ins_get inv.hok e
  obtain ⟨od, J, _⟩ := O.look
  exact ⟨od, J⟩
/-! ### own == -/
def rEqOwn (K : PySem.W.Frag) (C : Addr) (sp : Sp) : R2 := fun x y H Q => ∃ a dx fs b C' dy gs, x = .ref a ∧ y = .ref b ∧ H a = some (.ins C dx fs) ∧ H b = some (.ins C' dy gs) ∧ PySem.W.notFirst K C (.ref C') = true ∧ sp [x, y] H Q E0
theorem op_eqOwn {C g : Addr} {fd : FuncData} {ps : List Str} {sp : Sp} {n : Nat} (hs : PySem.W.findIn X.K (.ref C) "__eq__" = some (some (.ref g))) (hf : PySem.W.isFn X.K (.ref g) = true) (F : FnOk X.prog X.w X.K X.mg X.base CX0 n g fd ps sp) (bind : Binds X.K fd ps [])
    (room : Room n X.A) : OpR X (compareOp .Eq) (rEqOwn X.K C sp) := by
  intro pins st σ h x y v u Z inv rx ry pre
  obtain ⟨a, dx, fs, b, C', dy, gs, rfl, rfl, ha, hb, nf, z⟩ := pre
  obtain rfl : v = Value.ref a := rx
  obtain rfl : u = Value.ref b := ry
  obtain ⟨od, J⟩ := inst_of inv ha
  obtain ⟨od', J'⟩ := inst_of inv hb
  obtain ⟨m, hF⟩ := inv.fr
  rw [show compareOp .Eq (.ref a) (.ref b) = richCompare .Eq (.ref a) (.ref b) from rfl]
  refine PySem.W.cmp_K (op := .Eq) (tb := .ref C') room.units0 hF inv.ok.mod.kin J J'.type nf hs hf ?_
  refine wpAny_mono (run0 (E' := X.xe) (xs := [.ref a, .ref b]) F room inv.env0 bind inv (.cons rfl (.cons rfl .nil)) z) (fun w s2 r => ?_) fun _ _ z => z
  obtain ⟨z', h2, inv2, rz, qz⟩ := r
  exact SlX.cmpback rz ⟨z', h2, inv2, rz, qz⟩
/-! ### != by own == -/
/-- what the text's class must be for it -/
structure NeCls (K : PySem.W.Frag) (C g : Addr) : Prop where
  ex : ∃ (nm q : Str) (N : Addr) (bs : List Value) (hd : Bool) (sn : List Str) (sub : List Value) (ab : Bool) (col : Option Bool) (dd : Option Addr) (k0 k1 k2 k3 k5 : Option Value) (nid : String),
    K.lookup C = some (excClassObj nm q C N bs [.type "object"] hd sn sub ab col dd k0 k1 k2 k3 k5 nid) ∧ PySem.W.nsOkIn K N = true ∧ PySem.W.nsIn K N "__eq__" = some (some (.ref g)) ∧ PySem.W.nsIn K N "__ne__" = some none
  fn : ∃ o : Obj, K.lookup g = some o ∧ o.cls = .type "function"
theorem ns_val {K : PySem.W.Frag} {h : Heap} {N : Addr} {m : Str → Option Value} {x : Str} {v : Value} (kin : K.In h) (G : h.Ns N m) (e : PySem.W.nsIn K N x = some (some v)) : m x = some v := by
  obtain ⟨o, es, ep, e1, e2, _, e3⟩ := G
  unfold PySem.W.nsIn at e
  split at e
  · rename_i q
    have z := kin _ _ q
    rw [e1] at z
    cases z
    cases e2
    split at e
    · rename_i w
      rw [← e3]
      unfold nsFind findBy
      rw [← Array.find?_toList, w]
      simpa using e
    · split at e <;> cases e
  · cases e
theorem NeCls.at {K : PySem.W.Frag} {C g a dx : Addr} {h : Heap} (c : NeCls K C g) (kin : K.In h) (ha : h.get? a = some (PySem.W.instObj C dx)) : h.OwnEqNoNe a C g "object" [.type "object"] := by
  obtain ⟨nm, q, N, bs, hd, sn, sub, ab, col, dd, k0, k1, k2, k3, k5, nid, e1, e2, e3, e4⟩ := c.ex
  obtain ⟨o, e5, e6⟩ := c.fn
  have hN : h.Ns N (h.nsMap N) := .of_isNs (PySem.W.isNs_of_in kin e2)
  exact ⟨_, o, nm, q, N, bs, hd, sn, sub, ab, col, dd, k0, k1, k2, k3, k5, nid, h.nsMap N, _, ha, rfl, kin _ _ e1, hN, ns_val kin hN e3, kin _ _ e5, e6, F.cmp_object.mro, F.cmp_object.eq.lookup, PySem.W.ns_none_of kin hN e4⟩
def rNeOwn (C : Addr) (sp : Sp) : R2 := fun x y H Q => ∃ a dx fs b dy gs, x = .ref a ∧ y = .ref b ∧ H a = some (.ins C dx fs) ∧ H b = some (.ins C dy gs) ∧ sp [x, y] H (fun v H' => ∃ c, v = .bl c ∧ Q (.bl (!c)) H') E0
theorem op_neOwn {C g : Addr} {fd : FuncData} {ps : List Str} {sp : Sp} {n : Nat} (c : NeCls X.K C g) (F : FnOk X.prog X.w X.K X.mg X.base CX0 n g fd ps sp) (bind : Binds X.K fd ps []) (room : Room (n + 1) X.A) : OpR X (compareOp .NotEq) (rNeOwn C sp) := by
  intro pins st σ h x y v u Z inv rx ry pre
  obtain ⟨a, dx, fs, b, dy, gs, rfl, rfl, ha, hb, z⟩ := pre
  obtain rfl : v = Value.ref a := rx
  obtain rfl : u = Value.ref b := ry
  obtain ⟨_, _, _, ga, _⟩ := inv.hok a _ ha
  obtain ⟨_, _, _, gb, _⟩ := inv.hok b _ hb
  have un := room.un
  refine compareOp_ne_ownEq (h := st.heap) (g := st.gens) (d := st.drawn) (t := st.toks) (os := st.os) PySem.F.cmp_object (c.at inv.kIn ga) gb rfl (by omega) ?_
  refine wpAny_mono (run0 (E' := X.xe) (xs := [.ref a, .ref b]) F room.in1 inv.env0.in1 bind inv (.cons rfl (.cons rfl .nil)) z) (fun w s2 r => ?_) fun _ _ z => z
  obtain ⟨v', h2, inv2, rz, cc, rfl, q2⟩ := r
  obtain rfl : w = Value.bool cc := rz
  exact ⟨cc, rfl, ⟨.bl (!cc), h2, inv2, rfl, q2⟩⟩
/-! ### str(o) by own __str__ -/
def rStrOwn (C : Addr) (sp : Sp) : List V → Hp → VK → Prop := fun xs H Q => ∃ a dx fs, xs = [.ref a] ∧ H a = some (.ins C dx fs) ∧ sp [.ref a] H (fun v H' => ∃ t, v = .str t ∧ Q (.str t) H') E0
theorem call_strOwn {C g : Addr} {fd : FuncData} {ps : List Str} {sp : Sp} {n : Nat} (hs : PySem.W.findIn X.K (.ref C) "__str__" = some (some (.ref g))) (hf : PySem.W.isFn X.K (.ref g) = true) (F : FnOk X.prog X.w X.K X.mg X.base CX0 n g fd ps sp) (bind : Binds X.K fd ps [])
    (room : Room (n + 2) X.A) : CallR X (.type "str") (rStrOwn C sp) := by
  intro pins st σ h xs us Z inv rel pre
  obtain ⟨a, dx, fs, rfl, ha, z⟩ := pre
  obtain ⟨u, rfl, ru⟩ : ∃ u, us = [u] ∧ RelV (.ref a) u := by
    cases rel with
    | cons e t => cases t; exact ⟨_, rfl, e⟩
  obtain rfl : u = Value.ref a := ru
  obtain ⟨od, J⟩ := inst_of inv ha
  have un := room.un
  refine PySem.W.kso_call (show X.A.units + 1 + 1 < cLine by omega) inv.kIn J hs hf ?_
  refine wpAny_mono (run0 (E' := X.xe) (xs := [.ref a]) F room.in1.in1 inv.env0.in1.in1 bind inv (.cons rfl .nil) z) (fun w s2 r => ?_) fun _ _ z => z
  obtain ⟨v', h2, inv2, rz, t, rfl, q2⟩ := r
  obtain ⟨tk, rfl⟩ : ∃ tk, w = Value.str t tk := rz
  exact ⟨.str t, h2, inv2, ⟨tk, rfl⟩, q2⟩
/-! ### o.m(.., k = v, ..) -/
structure CalleeMK (P : Program) (w : World) (K : PySem.W.Frag) (mg : Str → Option Value) (base : Heap) (k : Nat) (C : Addr) (m : Str) (ps : List Str) (sp : Sp) (n : Nat) (ks : List Str) (gV : List V → List V → List V) : Prop where
  ex : ∃ (f : Addr) (fd : FuncData) (g : List Value → List Value → List Value), FnOk P w K mg base CX0 k f fd ps sp ∧ Meth K C m f ∧ KBn K fd ps (n + 1) ks g gV
  cl : Cls K C
def tMethK0 (C : Addr) (m : Str) (n : Nat) (sp : Sp) (gV : List V → List V → List V) (ta : TE) (tk : TA) : TE := fun σ H Q => ta σ H fun x H1 => ∃ a dx fs, x = .ref a ∧ H1 a = some (.ins C dx fs) ∧ fs.lookup m = none ∧ tk σ H1 fun zs H2 => zs.length = n ∧ sp (gV [.ref a] zs) H2 Q E0
theorem pe_methK0 {pl : Sem Bool} {k : Nat} {C : Addr} {m : Str} {ps ks : List Str} {sp : Sp} {gV : List V → List V → List V} {o : Expr} {kws : List Keyword} {apos pos : Pos} {ta : TE} {tk : TA} (c : CalleeMK X.prog X.w X.K X.mg X.base k C m ps sp 0 ks gV) (ho : PE X o ta) (room : Room k X.A) (hkw : PK X kws tk)
    (d1 : (backToKw pos (keywordEach kws X.env)).all (·.1.isSome) = true := by rfl) (d2 : (backToKw pos (keywordEach kws X.env)).filterMap (·.1) = ks := by rfl) (d3 : ((backTo pos (starEach [] X.env)).any (·.1) || (backToKw pos (keywordEach kws X.env)).any (·.1.isNone)) = false := by rfl)
    (d4 : eval (.Call (.Attribute o m apos) [] kws pos) X.env = (do
      let ov ← eval o X.env
      standAt apos.atName
      let (f, first) ← holding [ov] (getMethod ov m pl)
      callWith pos f first (backTo pos (starEach [] X.env)) (backToKw pos (keywordEach kws X.env))) := by rfl) :
    PE X (.Call (.Attribute o m apos) [] kws pos) (tMethK0 C m ks.length sp gV ta tk) := by
  obtain ⟨f, fd, g, F, hm, hb⟩ := c.ex
  refine ⟨fun pins st σ h Z inv pre => PySem.W.methodCall_KW (pl := pl) (thn (ho.run pins st σ h _ inv pre) fun u s1 r => ?_) d4⟩
  obtain ⟨x, h1, inv1, rx, a, dx, fs, rfl, ea, no, z⟩ := r
  obtain rfl : u = Value.ref a := rx
  refine getmeth_ok inv1 ea c.cl hm no (PySem.W.callWith_KW0 (first := [.ref a]) (h₀ := X.base) inv.ok.mod.kin hm.kp d1 (thn (hkw.run pos pins s1 σ h1 _ inv1 z) fun ws s2 r => ?_) d3)
  obtain ⟨zs, h2, inv2, rel, l2, z2⟩ := r
  refine ⟨inv2.kIn, ?_⟩
  rw [d2]
  exact run_fnN (us := [.ref a]) (vs := [.ref a]) F room hb pass0 inv2 (.cons rfl .nil) rel rfl l2 z2
theorem r_methK0 {σ : L2.St} {H : Hp} {Q : VK} {C : Addr} {m : Str} {n : Nat} {sp : Sp} {gV : List V → List V → List V} {ta : TE} {tk : TA}
    (q : ta σ H fun x H1 => ∃ a dx fs, x = .ref a ∧ H1 a = some (.ins C dx fs) ∧ fs.lookup m = none ∧ tk σ H1 fun zs H2 => zs.length = n ∧ sp (gV [.ref a] zs) H2 Q E0) : tMethK0 C m n sp gV ta tk σ H Q := q
/-! ### an item of a dict of the text -/
theorem ix_kd {d : Addr} {es : Array DictEntry} {n : Nat} (D : KDict X.K X.w d es n) : IxR X (fun x y H Q => ∃ (z : Str) (u0 : Value) (v0 : V), x = .ref d ∧ y = .str z ∧ PySem.W.nsIn X.K d z = some (some u0) ∧ RelV v0 u0 ∧ Q v0 H) := by
  intro value slice pins st σ h x y v u Z inv rx ry pre hs
  have pre' := pre
  obtain ⟨z, u0, v0, rfl, rfl, e, r, q⟩ := pre'
  obtain rfl : v = Value.ref d := rx
  have ty : st.TypeIs (.ref d) "dict" := ⟨_, inv.kIn _ _ D.at_, rfl⟩
  exact tail_any ty PySem.F.slot_dict_getitem.lookup (op_item_kd D pins st σ h (.ref d) (.str z) _ u Z inv rfl ry pre) hs
theorem r_joined {σ : L2.St} {H : Hp} {te : TE} {ts : List TE} {acc : Str} {QJ : Str → Hp → Prop} (q : te σ H fun x H1 => ∃ y : Str, x = .str y ∧ (acc ++ y).length ≤ sizeLine ∧ tJs ts (acc ++ y) σ H1 QJ) : tJs (te :: ts) acc σ H QJ := q
theorem r_joined0 {σ : L2.St} {H : Hp} {acc : Str} {QJ : Str → Hp → Prop} (q : QJ acc H) : tJs [] acc σ H QJ := q
theorem r_fmt {σ : L2.St} {H : Hp} {te : TE} {Q : VK} (q : te σ H fun x H1 => (∃ y : Str, x = .str y ∧ y.length ≤ sizeLine ∧ Q (.str y) H1) ∨ ∃ i : Int, x = .int i ∧ i.natAbs.log2 < 1920 ∧ Q (.str (toString i)) H1) : tFmt te σ H Q := q
theorem r_fmtS {H : Hp} {Q : VK} {z : Str} {B : Prop} (h : z.length ≤ sizeLine) (q : Q (.str z) H) : (∃ y : Str, V.str z = .str y ∧ y.length ≤ sizeLine ∧ Q (.str y) H) ∨ B := .inl ⟨z, rfl, h, q⟩
/-- C(k = v, ..) -/
structure CalleeIK (P : Program) (w : World) (K : PySem.W.Frag) (mg : Str → Option Value) (base : Heap) (CX : CXT) (k : Nat) (C : Addr) (x : Str) (ps : List Str) (sp : Sp) (ks : List Str) (gV : List V → List V → List V) : Prop where
  ex : ∃ (f : Addr) (fd : FuncData) (g : List Value → List Value → List Value), FnOk P w K mg base CX k f fd ps sp ∧ Mk K C f ∧ mg x = some (.ref C) ∧ KBn K fd ps 1 ks g gV
theorem pe_makeKC {CX : CXT} {k : Nat} {C : Addr} {x : Str} {ps ks : List Str} {sp : Sp} {gV : List V → List V → List V} {E : XK} {kws : List Keyword} {p pos : Pos} {tk : TA} (c : CalleeIK X.prog X.w X.K X.mg X.base CX k C x ps sp ks gV) (room : Room (k + 1) X.A) (gl : Gl X x) (pass : Passes CX X E) (hkw : PK X kws tk)
    (d1 : (backToKw pos (keywordEach kws X.env)).all (·.1.isSome) = true := by rfl) (d2 : (backToKw pos (keywordEach kws X.env)).filterMap (·.1) = ks := by rfl) (d3 : (x == ("__debug__" : Str)) = false := by decide)
    (d4 : ((backTo pos (starEach [] X.env)).any (·.1) || (backToKw pos (keywordEach kws X.env)).any (·.1.isNone)) = false := by rfl) :
    PE X (.Call (.Name x p) [] kws pos) (tMakeK C 0 ks.length sp gV E tNil tk) := by
  obtain ⟨f, fd, g, F, M, hm, hb⟩ := c.ex
  exact pe_makeK0 M F room gl hm hb pass hkw d1 d2 d3 d4
theorem r_makeK {σ : L2.St} {H : Hp} {Q : VK} {C : Addr} {n m : Nat} {sp : Sp} {gV : List V → List V → List V} {E : XK} {t tk : TA} (q : t σ H fun vs H1 => tk σ H1 fun zs H2 => vs.length = n ∧ zs.length = m ∧ ∀ x dx, H2 x = none → H2 dx = none → dx ≠ x →
    sp (gV (.ref x :: vs) zs) (upd (upd H2 dx (.own x)) x (.ins C dx [])) (fun v H3 => v = .non ∧ Q (.ref x) H3) E) : tMakeK C n m sp gV E t tk σ H Q := q
/-- a special method of the text's class; the class for != -/
structure OwnM (P : Program) (w : World) (K : PySem.W.Frag) (mg : Str → Option Value) (base : Heap) (k : Nat) (C : Addr) (m : Str) (ps : List Str) (sp : Sp) : Prop where
  ex : ∃ (g : Addr) (fd : FuncData), PySem.W.findIn K (.ref C) m = some (some (.ref g)) ∧ PySem.W.isFn K (.ref g) = true ∧ FnOk P w K mg base CX0 k g fd ps sp ∧ Binds K fd ps []
structure OwnNe (P : Program) (w : World) (K : PySem.W.Frag) (mg : Str → Option Value) (base : Heap) (k : Nat) (C : Addr) (ps : List Str) (sp : Sp) : Prop where
  ex : ∃ (g : Addr) (fd : FuncData), NeCls K C g ∧ FnOk P w K mg base CX0 k g fd ps sp ∧ Binds K fd ps []
theorem call_strO {C : Addr} {ps : List Str} {sp : Sp} {n : Nat} (c : OwnM X.prog X.w X.K X.mg X.base n C "__str__" ps sp) (room : Room (n + 2) X.A) : CallR X (.type "str") (rStrOwn C sp) := by
  obtain ⟨g, fd, h1, h2, F, b⟩ := c.ex
  exact call_strOwn h1 h2 F b room
theorem op_eqO {C : Addr} {ps : List Str} {sp : Sp} {n : Nat} (c : OwnM X.prog X.w X.K X.mg X.base n C "__eq__" ps sp) (room : Room n X.A) : OpR X (compareOp .Eq) (rEqOwn X.K C sp) := by
  obtain ⟨g, fd, h1, h2, F, b⟩ := c.ex
  exact op_eqOwn h1 h2 F b room
theorem op_neO {C : Addr} {ps : List Str} {sp : Sp} {n : Nat} (c : OwnNe X.prog X.w X.K X.mg X.base n C ps sp) (room : Room (n + 1) X.A) : OpR X (compareOp .NotEq) (rNeOwn C sp) := by
  obtain ⟨g, fd, h1, F, b⟩ := c.ex
  exact op_neOwn h1 F b room
end
end KO

/-! KX: own error classes over ValueError whose __init__ says super().__init__(text) and sets one field. -/
namespace KX
open PySem PySem.Spec PyProof.Rows L2 KB
/-- the frame of such an __init__ -/
def supCx (CXx : CXT) (P : Program) (w : World) (K : PySem.W.Frag) (mg : Str → Option Value) (base : Heap) (N : List Str) (ql : Str) (sc : Scope) (f cda cc : Addr) (A : Around) (out : List Env) (st : Shared) (h : Hp) (W : XK) : Cx where
  prog := P
  w := w
  K := K
  mg := mg
  base := base
  A := A.deeper (PySem.W.ksEnv ql sc st.heap.objs.size f (.ref cda) cc)
  N := N
  s_0 := st
  H_0 := h
  env := PySem.W.ksEnv ql sc st.heap.objs.size f (.ref cda) cc
  outer := out
  stack := PySem.W.ksEnv ql sc st.heap.objs.size f (.ref cda) cc :: out
  ex := []
  fn := fun _ => false
  calm := true
  pn := []
  xe := fun e s' => wpAny (model P w) (A.deeper (PySem.W.ksEnv ql sc st.heap.objs.size f (.ref cda) cc)) (leaving (PySem.W.ksEnv ql sc st.heap.objs.size f (.ref cda) cc) e) (fun _ s'' => CXx out h st W e s'') (fun e' s'' => CXx out h st W e' s'') s'
theorem cls_only {y : Str} {cc c : Addr} (e : ([(("__class__" : Str), cc)] : List (Str × Addr)).lookup y = some c) : y = "__class__" ∧ c = cc := by
  simp only [List.lookup] at e
  split at e
  · rename_i z
    exact ⟨by simpa using z, (Option.some.inj e).symm⟩
  · cases e
theorem inv_sup {CXx : CXT} {P : Program} {w : World} {K : PySem.W.Frag} {mg : Str → Option Value} {base : Heap} {vn ql : Str} {sc : Scope} {f cda cc : Addr} {A : Around} {out : List Env} {st : Shared} {h : Hp} {W : XK} {u1 u2 : Value} {v1 v2 : V} {h1 : Heap} {tk : Nat} {cl : Value} {cld : Option Addr} {csl : Array (Option Value)} {cv : Option Value}
    (e0 : Env0 P w K mg base A out st h) (hd : A.handled = none) (kind : sc.kind = .function) (nocell : ∀ y ∈ sc.names, y.2 ≠ .cell) (nofree : ∀ y, sc.names.lookup y = some .free → y = "__class__") (l1 : sc.names.lookup ("self" : Str) = some .local) (l2 : sc.names.lookup vn = some .local) (nv : vn ≠ "self")
    (hc : K.lookup cc = some ⟨cl, cld, .cell cv, csl⟩) (hns : h1.Ns st.heap.objs.size (fun y => ([(("self" : Str), u1), (vn, u2)] : List (Str × Value)).reverse.lookup y)) (kp : ∀ b o, st.heap.get? b = some o → h1.get? b = some o) (r1 : RelV v1 u1) (r2 : RelV v2 u2) :
    Inv (supCx CXx P w K mg base ["self", vn] ql sc f cda cc A out st h W) [] [some v1, some v2] h { st with heap := h1, toks := tk } := by
  have noA : ∀ b : Addr, b ∉ (supCx CXx P w K mg base ["self", vn] ql sc f cda cc A out st h W).ex := fun b z => absurd (show b ∈ ([] : List Addr) from z) (by simp)
  have ccb := e0.bs _ _ (e0.mod.kin _ _ hc)
  refine ⟨⟨e0.mod, kind, rfl, rfl, Nat.le_refl _, fun y z c a b => (cls_only a).1.trans (cls_only b).1.symm, fun y hy => ?_, fun y c z _ => ?_, fun _ => hd, Around.frames_deeper e0.frames, .inr ⟨rfl, rfl⟩, fun b z => absurd z (noA b), e0.bs, e0.bsz, fun b _ _ => noA b, fun b z => absurd z (noA b), e0.funs, e0.frf⟩,
    rfl, e0.bare, Un.kept kp, ⟨_, hns, fun i y v a b c => ?_⟩, fun y c e => ?_, e0.hok.fresh (Nat.le_refl _), fun y c e => ?_, fun p hp => absurd (show p ∈ ([] : List (Addr × Obj)) from hp) (by simp), e0.hok.kept kp, rfl⟩
  · have hy : sc.names.lookup y = some .cell ∨ sc.names.lookup y = some .free := hy
    rcases hy with hy | hy
    · exact absurd rfl (nocell _ (PySem.mem_of_lookup hy))
    · rw [nofree y hy]
      exact ⟨cc, rfl⟩
  · have z : false = true := z
    cases z
  · match i, a, b with
    | 0, a, b =>
      obtain rfl : ("self" : Str) = y := Option.some.inj a
      obtain rfl : v1 = v := Option.some.inj (Option.some.inj b)
      refine ⟨u1, r1, .inl ⟨l1, ?_⟩⟩
      have nv' : ¬ (("self" : Str) == vn) = true := by simpa using fun z : ("self" : Str) = vn => nv z.symm
      simp [List.lookup, nv']
    | 1, a, b =>
      obtain rfl : vn = y := Option.some.inj a
      obtain rfl : v2 = v := Option.some.inj (Option.some.inj b)
      exact ⟨u2, r2, .inl ⟨l2, by simp [List.lookup]⟩⟩
    | i + 2, a, b => cases a
  · obtain ⟨rfl, rfl⟩ := cls_only e
    exact ⟨cv, _, kp _ _ ccb.1, rfl⟩
  · obtain ⟨rfl, rfl⟩ := cls_only e
    exact ccb.2
section
variable {prog : Program} {w : World} {A : Around} {E : Value → Shared → Prop} {h : Heap} {g : Array GenState} {d : Drawn} {t : Nat} {os : OsState}
variable {nm q : Str} {C N : Addr} {bs bm : List Value} {hdct : Bool} {sn : List Str} {sub : List Value} {ab : Bool} {col : Option Bool} {dd : Option Addr} {k0 k1 k2 k3 k5 : Option Value}
theorem call_mw {u e t0 : Addr} {rest : List Value} {Q : Value → Shared → Prop}
    (hC : h.get? C = some (excClassObj nm q C N bs bm hdct sn sub ab col dd k0 k1 k2 k3 k5 "ValueError.__new__")) (he : h.get? e = some (HandSPX.excO C t0)) (hu : h.get? u = some (PySem.W.kxs_mw "ValueError.__init__" e)) (hrest : rest.length ≤ sizeLine)
    (hq : ∀ h' t1, (∀ b o, b ≠ e → h.get? b = some o → h'.get? b = some o) → h'.get? e = some (HandSPX.excO C t1) → Q .none ⟨h', g, d, t, os⟩) :
    wpAny (model prog w) A (call (.ref u) rest) Q E ⟨h, g, d, t, os⟩ := by
  refine (wpAny_call (codeAny_of_tree ?_)); show wpAny _ A.in1 (callAny (.ref u) ⟨rest, []⟩) _ _ _; simp only [callAny]
  refine (wpAny_bind (wpAny_load hu ?_))
  simp only [PySem.W.kxs_mw, show (Value.type "method-wrapper" == Value.type "method" || Value.type "method-wrapper" == Value.type "builtin_function_or_method" || Value.type "method-wrapper" == Value.type "method-wrapper") = true by decide, if_true]
  refine (W.KFB.if_so (by decide) ?_)
  refine (wpAny_bind (ESX.check_bound F.excBase_ValueError hC he rfl ?_))
  refine (wpAny_bind (wpAny_pure (wpAny_pure ?_)))
  refine (⟨Code.quiet_builtin _ (by decide +kernel), codeAny_builtin F.excBase_ValueError.initEntry ?_⟩)
  rw [Around.under_plainId F.excBase_ValueError.init.plain _]; wp_walk
  refine hq _ h.objs.size (fun b o n e1 => ?_) ?_
  · exact (Heap.get?_update_other _ _ (Ne.symm n)).trans (Heap.get?_push_of_some _ e1)
  · exact Heap.get?_update_self _ (Heap.get?_push_of_some _ he) rfl
end
/-- what the text says of such an __init__ of the class at C -/
structure SupFn (K : PySem.W.Frag) (P : Program) (f : Addr) (fd : FuncData) (C : Addr) (vn fld : Str) : Prop where
  ex : ∃ (ql : Str) (pr : Arguments) (sc : Scope) (dV kV doc pm ct oc ccl cl : Value) (an od cdd cld : Option Addr) (osl ccs csl : Array (Option Value)) (cda cc : Addr) (vs : Array Value) (file : Str) (tf : Tok) (p0 p1 p2 p3 p4 p5 q1 q2 q3 q4 : Pos) (msg : Str) (j : Nat) (ar : Arg) (pl : Sem Bool),
    fd = PySem.W.ksFn "__init__" ql pr [.Expr (.Call (.Attribute (.Call (.Name "super" p0) [] [] p1) "__init__" p2) [.Constant (.str msg) j p3] [] p4) p5, .Assign [.Attribute (.Name "self" q1) fld q2] (.Name vn q3) q4] sc dV kV doc pm an (.ref cda) ct cc ∧
    K.lookup f = some ⟨oc, od, .func fd, osl⟩ ∧ PySem.W.codeIn K (.ref cda) ql = true ∧ K.lookup cda = some ⟨ccl, cdd, .fields vs, ccs⟩ ∧ vs[2]? = some (.str file tf) ∧ ((P.main.file : Str) == file) = true ∧
    K.lookup cc = some ⟨cl, cld, .cell (some (.ref C)), csl⟩ ∧ (pr.posonlyargs ++ pr.args).head? = some ar ∧ ar.arg = "self" ∧
    sc.kind = .function ∧ sc.isCoroutine = false ∧ sc.isGenerator = false ∧ (∀ y ∈ sc.names, y.2 ≠ .cell) ∧ (∀ y, sc.names.lookup y = some .free → y = "__class__") ∧ sc.names.lookup ("super" : Str) = some .globalImplicit ∧ sc.names.lookup ("__class__" : Str) = some .free ∧
    sc.names.lookup ("self" : Str) = some .local ∧ sc.names.lookup vn = some .local ∧
    (∀ en : Env, eval (.Call (.Attribute (.Call (.Name "super" p0) [] [] p1) "__init__" p2) [.Constant (.str msg) j p3] [] p4) en = (do
      let ov ← attributeBase (.Call (.Name "super" p0) [] [] p1) "__init__" en (eval (.Call (.Name "super" p0) [] [] p1) en)
      standAt p2.atName
      let (g, first) ← holding [ov] (getMethod ov "__init__" pl)
      callWith p4 g first (backTo p4 (starEach [.Constant (.str msg) j p3] en)) []))
  top : (P.main.scope.names.lookup ("super" : Str)).isSome = false
  nv : vn ≠ "self" ∧ (vn == ("__debug__" : Str)) = false ∧ (vn == ("__classdict__" : Str)) = false
  opq : PySem.W.nsIn K cStatics "thirdparty.any" = some none
  sub : PySem.W.mroIn K C (.ref C) = some true
  ve : PySem.W.mroIn K C (.type "ValueError") = some true
  sup : PySem.W.ks_superIn K C C "__init__" = some (some (.builtin "ValueError.__init__"))
  nof : PySem.W.findIn K (.ref C) fld = some none
def spXI (C : Addr) (fld : Str) : Sp := fun vs H Q _ => ∃ (a : Addr) (v : V), vs = [.ref a, v] ∧ H a = some (exo a C none) ∧ ∀ dx, H dx = none → dx ≠ a → Q .non (upd (upd H dx (exd dx [(fld, v)])) a (exo a C (some dx)))
theorem sup_ok {P : Program} {w : World} {K : PySem.W.Frag} {mg : Str → Option Value} {base : Heap} {k : Nat} {f C : Addr} {fd : FuncData} {vn fld : Str} (S : SupFn K P f fd C vn fld) (T : OexC K C) (hm : mg "super" = none) (hboot : bootBuiltins "super" = some (.type "super")) : FnOk P w K mg base CX0 (k + 1) f fd ["self", vn] (spXI C fld) := by
  refine ⟨fun xs h Z W z => ?_, fun A out st h ar0 ws xs Z W room env bind vals pre => ?_⟩
  · obtain ⟨a, v, rfl, _⟩ := z
    rfl
  obtain ⟨a, v, rfl, ha, q⟩ := pre
  obtain ⟨u1, u2, rfl, r1, r2⟩ := vals2 vals
  obtain ⟨ql, pr, sc, dV, kV, doc, pm, ct, oc, ccl, cl, an, od, cdd, cld, osl, ccs, csl, cda, cc, vs, file, tf, p0, p1, p2, p3, p4, p5, q1, q2, q3, q4, msg, j, ar, pl, rfl, lf, cdf, lcd, hvs, hfile, lcc, hp, har, kind, nco, ngen, nocell, nofree, ks, kc, kself, kvn, hev⟩ := S.ex
  have kin : K.In st.heap := env.mod.kin.keeps fun b o e => (env.bs b o e).1
  have nolim : st.heap.NoLimit := env.mod.nolimit.keeps fun b o e => (env.bs b o e).1
  refine ks_codeAny_call_defAt (binds := [("self", u1), (vn, u2)]) room.depth (kin _ _ lf) rfl nolim (PySem.W.codeRec_of kin cdf) rfl bind nocell (fun y hy => ?_) (fun h1 hns kp => ?_) nco ngen kind
  · simp only [List.mem_cons, List.not_mem_nil, or_false] at hy
    rcases hy with rfl | rfl
    · exact kself
    · exact kvn
  obtain rfl : u1 = Value.ref a := r1
  have I : Inv (supCx CX0 P w K mg base ["self", vn] ql sc f cda cc A out st h W) [] [some (.ref a), some v] h { st with heap := h1, toks := st.toks + 2 } := inv_sup env room.hd kind nocell nofree kself kvn S.nv.1 lcc hns kp rfl r2
  have hi : interactive (PySem.W.ksEnv ql sc st.heap.objs.size f (.ref cda) cc) = false := by
    unfold interactive
    simp [kind]
  refine ks_wpAt_execs_cons (ks_wpAt_Expr_any (env := PySem.W.ksEnv ql sc st.heap.objs.size f (.ref cda) cc) ?_ hi)
  refine ks_wpAt_MethodCall (pl := pl) (env := PySem.W.ksEnv ql sc st.heap.objs.size f (.ref cda) cc) ?_ (hev _)
  have bk := I.bk
  have kin1 : K.In h1 := I.kIn
  obtain ⟨t1, ga⟩ := exo_at I.hok ha
  obtain ⟨nm, qn, N, bs, bm, sn, sub, ab, col, dd, k0, k1, k2, k3, k5, hC, hbm⟩ := T.cls
  have hcl : PySem.W.clsIn K C = some { name := nm, bases := bs, mro := .ref C :: bm, ns := N, qualname := qn, hasDict := true, slotNames := sn, subclasses := sub, abstract := ab, collection := col, hasDel := false } := by unfold PySem.W.clsIn; rw [hC] <;> rfl
  obtain ⟨mb, b1, b2⟩ := env.mod.blt
  have kb : ∀ b o, base.get? b = some o → h1.get? b = some o := fun b o e => kp b o (env.bs b o e).1
  refine ks_wpAt_super_base (env := PySem.W.ksEnv ql sc st.heap.objs.size f (.ref cda) cc) ks kc (by decide) rfl (kin1 _ _ lf) rfl hp rfl (kin1 _ _ lcd) rfl hvs hfile S.top ?_
  refine PySem.W.ks_loadName_global kind ks (Calls.loadGlobal_builtin (env := PySem.W.ksEnv ql sc st.heap.objs.size f (.ref cda) cc) (env.mod.glob.keeps kb) hm (b1.keeps kb) ((b2 "super" (by decide)).trans hboot) ⟨rfl, ?_⟩)
  refine wpAny_loadName_free kind kc rfl ⟨_, kin1 _ _ lcc, rfl⟩ ?_
  rw [har]
  refine wpAny_loadName_local kind kself hns (v := .ref a) ?_ ?_
  · have nv' : ¬ (("self" : Str) == vn) = true := by simpa using fun z : ("self" : Str) = vn => S.nv.1 z.symm
    simp [List.lookup, nv']
  refine ks_wpAny_isType_cls (kin1 _ _ hC) rfl ⟨rfl, ?_⟩
  refine ks_wpAny_call_super (kin1 _ _ hC) rfl ga rfl (fun c z => by cases z) (PySem.W.looks_mroIn kin1 S.sub) (fun h2 e2 kp2 => ?_)
  have kin2 : K.In h2 := kin1.keeps kp2
  have J2 : PySem.W.InstAt h2 a _ C none := ⟨kp2 _ _ ga, rfl, rfl, trivial⟩
  have hsup : PySem.W.alongIn K "__init__" (((Value.ref C :: bm).dropWhile (· != .ref C)).drop 1) = some (some (.builtin "ValueError.__init__")) := by
    have z := S.sup
    unfold PySem.W.ks_superIn at z
    rw [hcl] at z
    exact z
  refine PySem.W.kxs_getMethod PySem.W.kxs_ValueError e2 (PySem.W.looks_opaque kin2 S.opq) (l₀ := Value.ref C :: bm) (fun A Q E s k q => wpAny_bind ((PySem.W.looks_clsIn kin2 hcl) A _ E s k (wpAny_pure q))) rfl kin2 hsup (J2.type.andThen (PySem.W.looks_mroIn kin2 S.ve)) (PySem.W.ks_ne kin2 J2 hcl) (by decide) ?_
  have gu : (h2.push (PySem.W.kxs_mw "ValueError.__init__" a)).get? h2.objs.size = some (PySem.W.kxs_mw "ValueError.__init__" a) := Heap.get?_push_at rfl rfl
  have kp3 : ∀ b o, h1.get? b = some o → (h2.push (PySem.W.kxs_mw "ValueError.__init__" a)).get? b = some o := fun b o e => Heap.get?_push_of_some _ (kp2 _ _ e)
  refine PySem.W.kxs_callWith (i := "ValueError.__init__") (x := a) rfl ?_
  refine Calls.evalArgs_plain (x := eval (.Constant (.str msg) j p3) (PySem.W.ksEnv ql sc st.heap.objs.size f (.ref cda) cc)) (rest := []) ?_
  refine Calls.spliced_cons (Calls.Constant_str (Calls.spliced_nil ?_))
  refine ⟨gu, ?_⟩
  refine call_mw (kp3 _ _ (kin1 _ _ hC)) (kp3 _ _ ga) gu (show 1 ≤ sizeLine by decide) (fun h4 t4 kp4 ga4 => ?_)
  have J0 := (I.kept (t' := 0) kp3).write (t' := st.toks + 2 + 1 + 1) (x := a) (e := a) (o := exo a C none) (by rw [ha]; exact True.intro) (.inl rfl) kp4 ⟨_, ga4⟩ (exo_ok ga4)
  have eu : upd h a (exo a C none) = h := by
    funext b
    by_cases hb : b = a
    · rw [hb, upd_same, ha]
    · rw [upd_ne hb]
  rw [eu] at J0
  have ps : PSs (supCx CX0 P w K mg base ["self", vn] ql sc f cda cc A out st h W) [.Assign [.Attribute (.Name "self" q1) fld q2] (.Name vn q3) q4] _ := pss_one (ps_ost (pv 0 rfl (.inl kself)) (pv 1 rfl (.inl kvn) S.nv.2.1 S.nv.2.2))
  refine wpAt_of_wpAny (wpAny_mono (ps.run [] _ [some (.ref a), some v] h { nx := fun _ h' => Z .non h', rt := Z } J0 ?_) (fun flow s2 res => ?_) fun _ _ z => z)
  · refine ⟨v, rfl, .ref a, rfl, a, C, rfl, T, S.nof, .inl ⟨ha, fun dx ndx nda => ?_⟩⟩
    exact q dx ndx nda
  · cases flow with
    | ret u => exact let ⟨v, _, h2, J, rel, z⟩ := res; ⟨v, h2, J.os, J.bare, J.base, J.hok, rel, z⟩
    | next => exact let ⟨_, h2, J, z⟩ := res; ⟨.non, h2, J.os, J.bare, J.base, J.hok, rfl, z⟩
    | brk => exact (let ⟨_, _, _, z⟩ := res; z : False).elim
    | cont => exact (let ⟨_, _, _, z⟩ := res; z : False).elim
/-! ### an exception kept behind its suite -/
/-- at a: an exception of the class cls, its dict at d -/
def exh (a : Addr) (cls : Value) (d : Option Addr) : HO := .ext fun h => ∃ (o : Obj) (vs : Array Value), h.get? a = some o ∧ Zc cls d o ∧ o.data = .fields vs
theorem exh_at {P : Program} {w : World} {H : Hp} {h : Heap} {a : Addr} {cls : Value} {d : Option Addr} (ok : HOk P w H h) (e : H a = some (exh a cls d)) : ∃ (o : Obj) (vs : Array Value), h.get? a = some o ∧ Zc cls d o ∧ o.data = .fields vs := by
  have z := ok a _ e
  exact z.1
theorem exh_ok {P : Program} {w : World} {H : Hp} {h : Heap} {a : Addr} {cls : Value} {d : Option Addr} {o : Obj} {vs : Array Value} (e : h.get? a = some o) (z : Zc cls d o) (hd : o.data = .fields vs) : ObjOk P w H h a (exh a cls d) :=
  ⟨⟨o, vs, e, z, hd⟩, ⟨o, e⟩, fun h1 h2 ⟨o1, vs1, e1, z1, d1⟩ k => ⟨o1, vs1, k _ e1, z1, d1⟩⟩
/-- an object that was not there at the def's start is followed from now on -/
theorem track {X : Cx} {pins : List (Addr × Obj)} {σ : L2.St} {H : Hp} {s : Shared} {a : Addr} {o : Obj} {vs : Array Value} {cls : Value} {d : Option Addr} (I : Inv X ((a, o) :: pins) σ H s) (z : Zc cls d o) (hd : o.data = .fields vs) (new : X.s_0.heap.get? a = none)
    (nop : ∀ p ∈ X.pn ++ pins, p.1 ≠ a) : Inv X pins σ (upd H a (exh a cls d)) s := by
  obtain ⟨ea, na, nl, nf, _⟩ := I.pin (a, o) (List.mem_append_right _ List.mem_cons_self)
  refine ⟨I.ok, I.os, I.bare, ⟨I.base.keep, I.base.slot, fun b ob e n x => ?_, I.base.there, fun b xs e => ?_, fun b ob u e => ?_, fun b ps e => ?_⟩, I.loc, I.cell, ?_, fun y c e => ?_, fun p hp => ?_, fun b u e => ?_, I.len⟩
  · rw [upd_ne (fun z => by rw [z, new] at e; cases e)]
    exact I.base.free b ob e n x
  · have z := I.base.tups b xs e
    rw [upd_ne (ne_of_none z na)]
    exact z
  · have z := I.base.frzs b ob u e
    rw [upd_ne (ne_of_none z na)]
    exact z
  · obtain ⟨m, z⟩ := I.base.tbls b ps e
    exact ⟨m, by rw [upd_ne (ne_of_none z na)]; exact z⟩
  · rw [upd_ne (Ne.symm nl)]
    exact I.free
  · obtain ⟨v, oc, ec, dc⟩ := I.cell y c e
    rw [upd_ne (fun z => by rw [z, ea] at ec; cases ec; rw [hd] at dc; cases dc)]
    exact I.freeC y c e
  · have hp' : p ∈ X.pn ++ ((a, o) :: pins) := by
      rcases List.mem_append.mp hp with z | z
      · exact List.mem_append_left _ z
      · exact List.mem_append_right _ (List.mem_cons_of_mem _ z)
    obtain ⟨g1, g2, g3, g4, g5⟩ := I.pin p hp'
    exact ⟨g1, by rw [upd_ne (nop p hp)]; exact g2, g3, g4, g5⟩
  · by_cases hb : b = a
    · subst hb
      rw [upd_same] at e
      cases e
      exact exh_ok ea z hd
    · rw [upd_ne hb] at e
      exact (I.hok b u e).stay (fun c v _ k => k) (fun c k => by rw [upd_ne (ne_of_none k na)]; exact k) fun c xs k => by rw [upd_ne (ne_of_none k na)]; exact k
/-- what 'except x as n: ..' wishes, n's object followed behind the suite -/
def wKeep (K : PySem.W.Frag) (c : Value) (i : Nat) (ts : Addr → Value → Option Addr → TS) (Wout : WX) (D : Ends) : WX := fun cls d σ H =>
  ∃ yes, PySem.W.exmOne K cls c = some yes ∧ (yes = true → ∀ a, H a = none → ts a cls d { nx := fun σ' H' => D.nx (σ'.set i none) (upd H' a (exh a cls d)), rt := D.rt, bk := fun _ _ => False, ct := fun _ _ => False } (σ.set i (some (.ref a))) H) ∧ (yes = false → Wout cls d σ H)
section
variable {X : Cx} {x n : Str} {c : Value} {i : Nat} {body suite : List Stmt} {b₀ : Stmt} {np pos pos' : Pos} {tb : WX → TS} {ts : Addr → Value → Option Addr → TS} {Wout : WX}
theorem ps_try_keep (hst : X.stack = X.env :: X.outer) (hfm : X.env.frame = some X.env.locals) (nd : X.N.Nodup) (hix : X.N[i]? = some n) (loc : X.env.kindOf n = some .local) (nam : Names X x c) (tks : Takes X Wout) (hex : X.ex = [])
    (bodyOk : ∀ (W : WX) (pn : List (Addr × Obj)) (xe : Value → Shared → Prop), Takes (X.tr pn xe) W → PassesOwn (model X.prog X.w) X.A X.env xe → PSs (X.tr pn xe) body (tb W))
    (suiteOk : ∀ (a : Addr) (oe : Obj) (cls : Value) (d : Option Addr) (pn : List (Addr × Obj)), Zc cls d oe → (∃ vs, oe.data = .fields vs) → PSs (X.suite a ((a, oe) :: pn)) (b₀ :: suite) (ts a cls d)) :
    PS X (.Try body [.ExceptHandler (some (.Name x np)) (some n) (b₀ :: suite) pos'] [] [] pos) (fun D σ H => tb (wKeep X.K c i ts Wout D) D σ H) := by
  refine ⟨fun pins st σ h D inv rdg => ?_⟩
  have okX := inv.ok
  have fr := okX.frames; rw [hst] at fr
  refine (wpAny_Try_except ?_)
  refine wpAny_mono ((bodyOk (wKeep X.K c i ts Wout D) (X.pn ++ pins) (fun e t1 => wpAny (model X.prog X.w) X.A (noteFrame e X.env) (fun _ t2 => wpAny (model X.prog X.w) X.A (setFlight e none) (fun _ t3 =>
    wpAny (model X.prog X.w) X.A (handleBy e X.env [.ExceptHandler (some (.Name x np)) (some n) (b₀ :: suite) pos']) (SP X pins D) X.xe t3) X.xe t2) X.xe t1) (fun u st' xx => ?_) PassesOwn.looking).run [] st σ h D (inv.toTry _) rdg) (fun flow t1 res => ?_) (fun _ _ z => z)
  · obtain ⟨a, G, tI, pins', σ1, h1, cls, d, rfl, K1, ground, up, sky, na, eos, ags, yes, q1, qy, qn⟩ := xx
    have I1 : Inv X pins σ1 h1 tI := K1.ofTry okX
    have sky1 : Sky G (X.env :: X.outer) a (Zc cls d) X.env.locals st'.heap := hst ▸ sky
    show wpAny (model X.prog X.w) X.A (noteFrame (.ref a) X.env) _ _ _
    refine Sky.land Zc.steady fr hfm sky1 fun hp3 fly3 up3 => ?_
    have I3 : Inv X pins σ1 h1 { st' with heap := hp3 } := I1.landed ground fly3.1 (up.trans up3) eos ags
    obtain ⟨o3, vs3, g3, z3, d3⟩ := fly3.there
    have nfr : a ∉ frs (X.env :: X.outer) := fun m => by
      obtain ⟨_, o', e', no⟩ := fly3.2.2.1.mem m
      rw [g3] at e'
      cases e'
      exact no _ d3
    have nl : a ≠ X.env.locals := fun z => nfr (List.mem_filterMap.mpr ⟨X.env, List.mem_cons_self, by rw [hfm, z]⟩)
    have nf : a ∉ X.fs := fun m => by
      obtain ⟨e, he, e2⟩ := List.mem_filterMap.mp m
      exact nfr (List.mem_filterMap.mpr ⟨e, List.mem_cons_of_mem _ he, e2⟩)
    have freshI : tI.heap.get? a = none := by
      cases e : tI.heap.get? a with
      | none => rfl
      | some o =>
        have := ground a o e (by rw [hst]; exact nfr)
        rw [fly3.2.1] at this
        cases this
    have fresh0 : X.s_0.heap.get? a = none := by
      cases e : X.s_0.heap.get? a with
      | none => rfl
      | some o =>
        obtain ⟨o', e'⟩ := I1.base.there a o e (by rw [hex]; exact List.not_mem_nil)
        rw [freshI] at e'
        cases e'
    have nop : ∀ p ∈ X.pn ++ pins, p.1 ≠ a := fun p hp z => by
      have := (I1.pin p hp).1
      rw [z, freshI] at this
      cases this
    have S3 := I3.suite g3 d3 na nl nf
    refine wpAny_handleBy_cons (codeAny_handlers_test ?_) (by intro z; cases z)
    have ty3 : PySem.W.Looks (model X.prog X.w) hp3 (typeOf (.ref a)) cls := fun A Q E s k z => wpAny_typeOf_ref (k _ _ g3) (by rw [z3.1]; exact z)
    have mt3 := PySem.W.exm_one (M := model X.prog X.w) (I3.kIn) ty3 q1
    have named : ∀ {Q : Value → Shared → Prop} {E : Value → Shared → Prop}, Q c { st' with heap := hp3 } → wpAny (model X.prog X.w) (X.A.mark (some (.ref a))) (eval (.Name x np) X.env) Q E { st' with heap := hp3 } := fun {Q E} z => by
      obtain ⟨n1, n2, n3 | ⟨n3, n4, n5⟩⟩ := nam
      · exact ld_glob (X := X.suite a ((a, o3) :: (X.pn ++ pins))) S3 n1 n3 z n2
      · exact ld_blt (X := X.suite a ((a, o3) :: (X.pn ++ pins))) S3 n1 n3 n4 z n5 n2
    refine named (mt3.here ?_)
    cases yes with
    | true =>
      refine (codeAny_handlers_suite_as ?_)
      refine HandSPX.lands_againZ fly3 fun hp4 fly4 up4 => ?_
      have I4 : Inv X pins σ1 h1 { st' with heap := hp4 } := I1.landed ground fly4.1 ((up.trans up3).trans up4) eos ags
      obtain ⟨o4, vs4, g4, z4, d4⟩ := fly4.there
      have S4 := I4.suite g4 d4 na nl nf
      refine store_ok (X := X.suite a ((a, o4) :: (X.pn ++ pins))) (v := .ref a) S4 nd hix (.inl loc) rfl (fun t5 S5 => ?_) (.inr loc)
      refine wpAny_mono ((suiteOk a o4 cls d (X.pn ++ pins) z4 ⟨_, d4⟩).run [] t5 _ h1 _ S5 (qy rfl a na)) (fun flow t6 res => ?_) (fun _ _ z => z.elim)
      have back : ∀ {σ6 : L2.St} {h6 : Hp}, Inv (X.suite a ((a, o4) :: (X.pn ++ pins))) [] σ6 h6 t6 → Inv X ((a, o4) :: pins) σ6 h6 t6 := fun {σ6 h6} S6 =>
        (S6.unsuite okX : Inv X pins σ6 h6 t6).pins_of fun p hp => by
          rcases List.mem_cons.mp hp with z | z
          · rw [z]; exact S6.pin (a, o4) (List.mem_append_left _ List.mem_cons_self)
          · exact S6.pin p (List.mem_append_left _ (List.mem_cons_of_mem _ (List.mem_append_right _ z)))
      cases flow with
      | next =>
        obtain ⟨σ6, h6, S6, q6⟩ := res
        exact gone_ok (back S6) nd hix loc fun t7 J7 => ⟨_, _, track J7 z4 d4 fresh0 nop, q6⟩
      | brk => exact (let ⟨_, _, _, z⟩ := res; z : False).elim
      | cont => exact (let ⟨_, _, _, z⟩ := res; z : False).elim
      | ret u =>
        obtain ⟨v6, σ6, h6, S6, r6, q6⟩ := res
        exact gone_ok (S6.unsuite okX) nd hix loc fun t7 J7 => ⟨_, _, _, J7, r6, q6⟩
    | false =>
      show wpAny _ X.A (handleBy (.ref a) X.env []) _ _ _
      refine (wpAny_handleBy_nil ?_)
      obtain ⟨j1, j2, j3, oe, vs, T, oT, ts', he, hz, hd, hv1, hr⟩ := id fly3
      unfold PySem.passOn
      refine (wpAny_bind (wpAny_field he hd hv1 ?_)); rw [if_neg (show ¬ ((Value.ref T == Value.none) = true) from by simp)]
      have last : wpAny (model X.prog X.w) X.A (setFlight (.ref a) X.env.frame) (fun _ t4 => wpAny (model X.prog X.w) X.A (throw (.ref a) : Sem Flow) (SP X pins D) X.xe t4) X.xe { st' with heap := hp3 } := by
        rw [hfm]
        refine HandSPX.setFlight_upZ fly3 fun hp4 held4 up4 => wpAny_throw (tks _ _ ?_)
        exact ⟨a, G, tI, pins, σ1, h1, cls, d, rfl, I1, ground, (up.trans up3).trans up4, .inr (.inr (by rw [hst]; exact held4)), na, eos, ags, qn rfl⟩
      first | exact wpAny_bind (wpAny_pure (wpAny_bind last)) | exact wpAny_bind last
  · cases flow with
    | next => exact let ⟨σ2, h2, J, q⟩ := res; wpAny_execs_nil ⟨σ2, h2, J.ofTry okX, q⟩
    | brk => exact let ⟨σ2, h2, J, q⟩ := res; ⟨σ2, h2, J.ofTry okX, q⟩
    | cont => exact let ⟨σ2, h2, J, q⟩ := res; ⟨σ2, h2, J.ofTry okX, q⟩
    | ret u => exact let ⟨v, σ2, h2, J, r, q⟩ := res; ⟨v, σ2, h2, J.ofTry okX, r, q⟩
end
/-! ### what is asked of a kept exception -/
def tXh (K : PySem.W.Frag) (f : Str) (te : TE) : TE := fun σ H Q => te σ H fun x H1 => ∃ (a C dd : Addr) (fs : List (Str × V)) (v : V), x = .ref a ∧ H1 a = some (exh a (.ref C) (some dd)) ∧ H1 dd = some (.xd fs) ∧ XfC K C ∧ PySem.W.findIn K (.ref C) f = some none ∧ fs.lookup f = some v ∧ Q v H1
theorem pe_xh {X : Cx} {e : Expr} {te : TE} {pos : Pos} {n : Str} (he : PE X e te) (hb : attributeBase e n X.env (eval e X.env) = eval e X.env := by rfl) : PE X (.Attribute e n pos) (tXh X.K n te) := by
  refine ⟨fun pins st σ h Q inv rdg => attr_of hb (thn (he.run pins st σ h _ inv rdg) fun u s1 res => ?_)⟩
  obtain ⟨x, h1, I1, rx, a, C, dd, fs, v, rfl, ea, ed, T, no, look, q⟩ := res
  obtain rfl : u = Value.ref a := rx
  obtain ⟨o, vs, g, z, hd⟩ := exh_at I1.hok ea
  obtain ⟨mA, ns, rel⟩ := (I1.hok dd _ ed : ObjOk X.prog X.w h1 s1.heap dd (.xd fs))
  obtain ⟨od, ho, hl⟩ := lookIn_ns ns
  obtain ⟨u, hu, ru⟩ := RelO.some_of (v := v) (o := mA n) (look ▸ rel n)
  have J : PySem.W.InstAt s1.heap a o C (some od) := ⟨g, z.1, by unfold PySem.W.notCls; rw [hd] <;> rfl, z.2.symm ▸ ho⟩
  exact HandSPX.exc_get I1.kIn J T.ga T.gg T.exC (PySem.W.findObj_own T.hdC no rfl (by rw [hl, hu])) (handed_of ru) ⟨v, h1, I1.tok _, ru, q⟩
/-- isinstance(y, c), y a kept exception with a dict -/
def rIsH (K : PySem.W.Frag) : List V → Hp → VK → Prop := fun xs H Q => ∃ (a C dd : Addr) (fs : List (Str × V)) (c : V) (u : Value) (b : Bool), xs = [.ref a, c] ∧ H a = some (exh a (.ref C) (some dd)) ∧ H dd = some (.xd fs) ∧ ExcC K C ∧ ClsV c u ∧ PySem.W.kitOne K (.ref C) u = some b ∧ Q (.bl b) H
theorem call_isH {X : Cx} : CallR X (.builtin "isinstance") (rIsH X.K) := by
  intro pins st σ h xs us Q inv rel pre
  obtain ⟨a, C, dd, fs, c, u, b, rfl, ea, ed, T, k, e, q⟩ := pre
  obtain ⟨w1, w2, rfl, r1, r2⟩ := vals2 rel
  obtain rfl : w1 = Value.ref a := r1
  obtain rfl := k.eq r2
  obtain ⟨o, vs, g, z, hd⟩ := exh_at inv.hok ea
  obtain ⟨mA, ns, rl⟩ := (inv.hok dd _ ed : ObjOk X.prog X.w h st.heap dd (.xd fs))
  obtain ⟨od, ho, hl⟩ := lookIn_ns ns
  have J : PySem.W.InstAt st.heap a o C (some od) := ⟨g, z.1, by unfold PySem.W.notCls; rw [hd] <;> rfl, z.2.symm ▸ ho⟩
  have hcl : (PySem.W.clsIn X.K C).isSome = true := by
    have z := T.hd
    unfold PySem.W.hasDictIn at z
    cases e : PySem.W.clsIn X.K C with
    | none => rw [e] at z; cases z
    | some _ => rfl
  exact PySem.W.kia_one (PySem.W.kitx_exc hcl T.hg T.hk T.hs T.ha T.hn T.ht T.hm) inv.kIn J e (fun z => nomatch z) fun tk => ⟨.bl b, h, inv.tok tk, rfl, q⟩
/-! ### raise C(e) -/
structure ErrMk (P : Program) (w : World) (K : PySem.W.Frag) (mg : Str → Option Value) (base : Heap) (C : Addr) (x fld : Str) : Prop where
  ex : ∃ (fI : Addr) (fd : FuncData) (vn : Str), OexC K C ∧ PySem.W.findIn K (.ref C) "__init__" = some (some (.ref fI)) ∧ PySem.W.typeIn K (.ref fI) = some (.type "function") ∧ FnOk P w K mg base CX0 1 fI fd ["self", vn] (spXI C fld) ∧ Binds K fd ["self", vn] [] ∧ mg x = some (.ref C)
theorem pmkC {X : Cx} {C : Addr} {x fld : Str} {e : Expr} {es : List Expr} {p pos : Pos} {ta : TA} (c : ErrMk X.prog X.w X.K X.mg X.base C x fld) (room : Room 2 X.A) (gl : Gl X x) (ha : PA X (e :: es) ta)
    (d1 : (x == ("__debug__" : Str)) = false := by decide) (d2 : starEach (e :: es) X.env = (false, eval e X.env) :: starEach es X.env := by rfl) (d3 : (backTo pos (starEach es X.env)).any (·.1) = false := by rfl) :
    PMk X (.Call (.Name x p) (e :: es) [] pos) (tMkO C (spXI C fld) [] ta) := by
  obtain ⟨fI, fd, vn, T, i1, i2, F, b, hm⟩ := c.ex
  exact pmk_oex T i1 i2 F room b .nil pass0 gl hm ha d1 d2 d3
theorem r_raiseO {σ : L2.St} {H : Hp} {te : TE} {C : Addr} {fld : Str} {W : XK} (q : te σ H fun v H1 => ∀ (d : Addr) (H' : Hp), Same H1 H' → H' d = some (.xd [(fld, v)]) → W (.ref C) (some d) H') (mono : ∀ (Q1 Q2 : VK), (∀ v H1, Q1 v H1 → Q2 v H1) → te σ H Q1 → te σ H Q2) :
    tMkO C (spXI C fld) [] (tCons te tNil) σ H W := by
  refine mono _ _ (fun v H1 g => ?_) q
  refine ⟨(show 1 ≤ 1000 by decide), fun a na => ⟨a, v, rfl, upd_same, fun dx ndx nda => ?_⟩⟩
  have n1 : H1 dx = none := by
    rw [upd_ne nda] at ndx
    exact ndx
  refine ⟨rfl, dx, [(fld, v)], upd_same, by rw [upd_ne nda]; exact upd_same, n1, g dx _ (fun b o e => ?_) upd_same⟩
  have b1 := ne_of_none e n1
  have b2 := ne_of_none e na
  rw [upd_ne b1, del_ne b2, upd_ne b2, upd_ne b1, upd_ne b2]
  exact e
theorem mono_var {i : Nat} {σ : L2.St} {H : Hp} (Q1 Q2 : VK) (h : ∀ v H1, Q1 v H1 → Q2 v H1) : tVar i σ H Q1 → tVar i σ H Q2 := fun ⟨v, e, q⟩ => ⟨v, e, h _ _ q⟩
end KX

/-! KY: values of many kinds: none, truths, numbers, texts, tuples, lists and dicts of such; repr of a pair, in, isinstance. -/
namespace KY
open PySem PySem.Spec PyProof.Rows L2 KB KG
inductive Sc where
  | non | bl (b : Bool) | int (i : Int) | str (x : Str)
  deriving DecidableEq
def Sc.v : Sc → V
  | .non => .non
  | .bl b => .bl b
  | .int i => .int i
  | .str x => .str x
def Sc.d : Sc → PyData
  | .non => .none
  | .bl b => .bool b
  | .int i => .int i
  | .str x => .str x
inductive Dt where
  | sc (s : Sc) | tup (l : List Sc) | lst (l : List Sc) | dct (l : List (Key × Sc))
def keyD : Key → PyData
  | .inl i => .int i
  | .inr x => .str x
def Dt.d : Dt → PyData
  | .sc s => s.d
  | .tup l => .tuple (l.map Sc.d)
  | .lst l => .list (l.map Sc.d)
  | .dct l => .dict (l.map fun p => (keyD p.1, p.2.d))
def OdAt (H : Hp) (v : V) : Dt → Prop
  | .sc s => v = s.v
  | .tup l => ∃ a, v = .ref a ∧ H a = some (.tup (l.map Sc.v))
  | .lst l => ∃ a, v = .ref a ∧ H a = some (.lst (l.map Sc.v))
  | .dct l => ∃ a, v = .ref a ∧ H a = some (.dK (l.map fun p => (p.1, p.2.v)))
theorem OdAt.to {H H' : Hp} {v : V} {t : Dt} (h : OdAt H v t) (k : ∀ a o, v = .ref a → H a = some o → H' a = some o) : OdAt H' v t := by
  cases t with
  | sc s => exact h
  | tup l => obtain ⟨a, e, g⟩ := h; exact ⟨a, e, k a _ e g⟩
  | lst l => obtain ⟨a, e, g⟩ := h; exact ⟨a, e, k a _ e g⟩
  | dct l => obtain ⟨a, e, g⟩ := h; exact ⟨a, e, k a _ e g⟩
theorem OdAt.same {H H' : Hp} {v : V} {t : Dt} (h : OdAt H v t) (s : Same H H') : OdAt H' v t := h.to fun a o _ e => s a o e
/-- it is no object of a class -/
theorem OdAt.notIns {H : Hp} {t : Dt} {a C dx : Addr} {fs : List (Str × V)} (h : OdAt H (.ref a) t) : H a ≠ some (.ins C dx fs) := by
  intro z
  cases t with
  | sc s => cases s <;> cases (show V.ref a = _ from h)
  | tup l => obtain ⟨b, e, g⟩ := h; cases e; rw [z] at g; cases g
  | lst l => obtain ⟨b, e, g⟩ := h; cases e; rw [z] at g; cases g
  | dct l => obtain ⟨b, e, g⟩ := h; cases e; rw [z] at g; cases g
section
variable {X : Cx} {pins : List (Addr × Obj)} {σ : L2.St} {H : Hp} {st : Shared}
theorem sc_reads {h : Heap} {u : Value} : ∀ s : Sc, RelV s.v u → Reads h u s.d []
  | .non, r => by cases (show u = Value.none from r); exact .none
  | .bl b, r => by cases (show u = Value.bool b from r); exact .bool b
  | .int i, r => by obtain ⟨t, rfl⟩ := (show ∃ t, u = Value.int i t from r); exact .int i t
  | .str x, r => by obtain ⟨t, rfl⟩ := (show ∃ t, u = Value.str x t from r); exact .str x t
theorem scs_reads {h : Heap} : ∀ (l : List Sc) (us : List Value), Vals (l.map Sc.v) us → ReadsAll h us (l.map Sc.d) []
  | [], us, r => by cases r; exact .nil
  | s :: l, us, r => by
    cases r with
    | cons r1 r2 => exact .cons (sc_reads s r1) (scs_reads l _ r2)
theorem dict_reads {P : Program} {w : World} {h : Heap} : ∀ (l : List (Key × Sc)) (vs : List (Key × Value)) (es : List DictEntry), KV (l.map fun p => (p.1, p.2.v)) vs → Pairs (mixKind P w) es vs →
    ReadsAll h (es.map (·.key)) ((l.map fun p => (keyD p.1, p.2.d)).map (·.1)) [] ∧ ReadsAll h (es.map (·.val)) ((l.map fun p => (keyD p.1, p.2.d)).map (·.2)) []
  | [], vs, es, k, p => by
    cases k
    cases p
    exact ⟨.nil, .nil⟩
  | (ky, s) :: l, vs, es, k, p => by
    cases k with
    | cons k1 k2 =>
      cases p with
      | cons p1 p2 p3 =>
        rename_i e es
        obtain ⟨g1, g2⟩ := dict_reads l _ _ k2 p3
        have r2 := k1.2
        rw [← p2] at r2
        refine ⟨?_, .cons (sc_reads s r2) g2⟩
        have e1 := k1.1
        have hk : keyIs ky e.key = true := by
          have z := p1
          rw [← e1] at z
          exact z
        have hr : Reads h e.key (keyD ky) [] := by
          rcases keyIs_shape hk with ⟨i, t, rfl, q⟩ | ⟨x, t, rfl, q⟩
          · rw [q]
            exact .int i t
          · rw [q]
            exact .str x t
        exact .cons hr g1
theorem noD_sc : ∀ s : Sc, s.d.hasDict = false
  | .non => rfl
  | .bl _ => rfl
  | .int _ => rfl
  | .str _ => rfl
theorem noD_scs : ∀ l : List Sc, PyData.hasDictAll (l.map Sc.d) = false
  | [] => by simp only [List.map_nil, PyData.hasDictAll]
  | s :: l => by simp only [List.map_cons, PyData.hasDictAll, noD_sc s, noD_scs l, Bool.or_false]
theorem od_reads {v : V} {u : Value} {t : Dt} (inv : Inv X pins σ H st) (o : OdAt H v t) (r : RelV v u) : ∃ as, Reads st.heap u t.d as ∧ (t.d.hasDict = true → sysModules ∉ as) := by
  cases t with
  | sc s =>
    obtain rfl : v = s.v := o
    exact ⟨_, sc_reads s r, fun _ => List.not_mem_nil⟩
  | tup l =>
    obtain ⟨a, rfl, e⟩ := o
    obtain rfl : u = Value.ref a := r
    obtain ⟨its, rv, ⟨ob, ho, hc, n, hd⟩, _⟩ := inv.tuple (SqT.of e)
    exact ⟨_, .tuple ho hc hd (scs_reads l _ rv), fun _ => List.not_mem_nil⟩
  | lst l =>
    obtain ⟨a, rfl, e⟩ := o
    obtain rfl : u = Value.ref a := r
    obtain ⟨its, rv, ⟨ob, n, ho, hc, _, hd⟩, _⟩ := inv.list (SqL.of e)
    refine ⟨_, .list ho hc hd (scs_reads l _ rv), fun z => ?_⟩
    simp only [Dt.d, PyData.hasDict, noD_scs l] at z
    cases z
  | dct l =>
    obtain ⟨a, rfl, e⟩ := o
    obtain rfl : u = Value.ref a := r
    obtain ⟨_, ns, vs, kv, ob, es, ep, ho, hex, hd, _, prs, _⟩ := dk_of inv.hok e
    obtain ⟨g1, g2⟩ := dict_reads (h := st.heap) l _ _ kv prs
    refine ⟨_, .dict ho hex.1 hd g1 g2, fun _ m => ?_⟩
    have m' : sysModules ∈ [a] := m
    rw [List.mem_singleton] at m'
    rw [← m'] at ns
    simp at ns
end
/-! ### repr of [tag, v] -/
section
variable {P : Program} {w : World} {A : Around} {E : Value → Shared → Prop} {s : Shared} {Z : Value → Shared → Prop}
theorem repr_items {a : Addr} {xs : List PyData} {o : Obj} {vs : Array Value} {n : Nat} {as1 : List Addr} (h1 : s.heap.get? a = some o) (h2 : o.cls = .type "list") (h3 : o.data = .seq vs n) (h4 : ReadsAll s.heap vs.toList xs as1) (ne : vs.toList ≠ []) (ok : PyData.showableAll xs = true) (nosys : PyData.hasDictAll xs = true → sysModules ∉ as1)
    (sz : (PyData.list xs).shown.length ≤ sizeLine) (fr : Free A) (hu : A.units + (PyData.list xs).depth + 3 < cLine)
    (q : ∀ h' u tk, (∀ b o, s.heap.get? b = some o → h'.get? b = some o) → Z (.str (PyData.list xs).shown u) { s with heap := h', toks := tk }) : wpAny (model P w) A (call (.builtin "repr") [.ref a]) Z E s := by
  have sz' : (listText (PyData.shownAll xs)).length ≤ sizeLine := by simpa only [PyData.shown] using sz
  have whole : Reads s.heap (.ref a) (.list xs) _ := .list h1 h2 h3 h4
  obtain ⟨bs, lim, kids⟩ := ReprAllK.of_readsAll (prog := P) (w := w) h4 ok nosys (fun t ht => Nat.le_trans (listText_mem_le ht) sz')
  have off : a ∉ bs := not_mem_of_deeper whole (by simp only [PyData.depth]; omega) lim
  simp only [PyData.depth] at hu
  simp only [PyData.shown] at q
  have ty : s.TypeIs (.ref a) "list" := ⟨_, h1, h2⟩
  refine repr_slot (by omega) ty F.slot_list_repr.toG ?_
  obtain ⟨l⟩ := vs
  cases l with
  | nil => exact absurd rfl ne
  | cons x l =>
    refine (wpAny_callSpecialIfBound?_slot (name := Str.ofString "__repr__") ty F.slot_list_repr (call_list_reprK h1 h2 h3 off (by simpa using kids.length_eq) (fun i y e => kids.item i y (by simpa using e)) fr (fun b _ => Clear.nil b) (show A.units + 1 + _ < cLine by omega) (fun _ _ e => e) (fun h' u tk kp => ?_) sz'))
    exact ⟨_, _, rfl, q h' u tk kp⟩
end
/-- the pair [tag, v] as data -/
def pairD (tag : Str) (t : Dt) : PyData := .list [.str tag, t.d]
structure Fit (tag : Str) (t : Dt) : Prop where
  ok : PyData.showable t.d = true
  deep : (pairD tag t).depth ≤ 60
  sz : (pairD tag t).shown.length ≤ sizeLine
section
variable {X : Cx}
def rReprT : List V → Hp → VK → Prop := fun xs H Q => ∃ (p : Addr) (tag : Str) (v : V) (t : Dt), xs = [.ref p] ∧ H p = some (.lst [.str tag, v]) ∧ OdAt H v t ∧ Fit tag t ∧ Q (.str (pairD tag t).shown) H
theorem call_reprT {k : Nat} (fr : Free X.A) (room : Room k X.A) : CallR X (.builtin "repr") rReprT := by
  intro pins st σ h xs us Z inv rel pre
  obtain ⟨p, tag, v, t, rfl, hp, od, fit, z⟩ := pre
  obtain ⟨u, rfl, rv⟩ := vals_one rel
  obtain rfl : u = Value.ref p := rv
  obtain ⟨its, rl, ⟨ob, n, ho, hc, _, hd⟩, _⟩ := inv.list (SqL.of hp)
  cases rl with
  | cons r1 rl =>
    cases rl with
    | cons r2 rl =>
      cases rl
      obtain ⟨tk, rfl⟩ := (show ∃ tk, _ = Value.str tag tk from r1)
      obtain ⟨as, rd, ns⟩ := od_reads inv od r2
      refine repr_items (xs := [.str tag, t.d]) ho hc hd (.cons (.str tag tk) (.cons rd .nil)) (by simp) ?_ (fun y m => ?_) fit.sz fr (by have := room.un; have := fit.deep; unfold pairD at this; omega) fun h' t1 tk' kp => ?_
      · simp only [PyData.showableAll, PyData.showable, fit.ok, Bool.and_true, Bool.true_and]
      · simp only [PyData.hasDictAll, PyData.hasDict, Bool.or_false, Bool.false_or] at y
        exact ns y (by simpa using m)
      · exact ⟨.str (pairD tag t).shown, h, inv.kept kp, ⟨t1, rfl⟩, z⟩
end
/-! ### a text beside a dict -/
section
open PySem.SeqAt PySem.MeetsSeq PySem.AutoSeq1
theorem str_eq_no_dict (b : Str) (u : Tok) (l : Addr) (c : Value) (es : Array DictEntry) (n : Nat) (dd : Option Addr) (sl : Array (Option Value)) :
    Meets (Builtin.«str.__eq__» ⟨[.str b u, .ref l], []⟩) (fun _ R s => s.heap.get? l = some { cls := c, dict := dd, data := .dict es n, slots := sl } ∧ R (.ok (.ret .notImplemented)) s) :=
  .of_wp fun prog w A R s h => by obtain ⟨hp, g, d, tk, os⟩ := s; obtain ⟨hl, h⟩ := h; wp_walk using wpAny_loadPart' hl, wpAny_load hl; exact ⟨_, rfl, h⟩
theorem dict_eq_no_str (l : Addr) (es : Array DictEntry) (n : Nat) (dd : Option Addr) (sl : Array (Option Value)) (b : Str) (u : Tok) :
    Meets (Builtin.«dict.__eq__» ⟨[.ref l, .str b u], []⟩) (fun _ R s => s.heap.get? l = some { cls := .type "dict", dict := dd, data := .dict es n, slots := sl } ∧ R (.ok (.ret .notImplemented)) s) :=
  .of_wp fun prog w A R s h => by obtain ⟨hp, g, d, tk, os⟩ := s; obtain ⟨hl, h⟩ := h; have f1 := F.sub_str_dict; wp_walk using wpAny_loadPart' hl; exact ⟨_, rfl, h⟩
variable {A : Around} {s : Shared}
theorem eqAt_str_dict {l : Addr} {es : Array DictEntry} {n : Nat} {ob : Obj} (b : Str) (u : Tok) (ho : s.heap.get? l = some ob) (hc : ob.cls = .type "dict") (hd : ob.data = .dict es n) (hu : A.units < cLine) : EqAt A s (.str b u) (.ref l) false := fun prog w E Q h => by
  obtain ⟨cls, dd, data, sl⟩ := ob
  simp only at hc hd
  subst hc hd
  unfold eqBool
  refine wpAny_holding ?_
  refine wpAny_ite_split (fun hab => absurd (eq_of_beq hab) nofun) (fun _ => ?_)
  refine wpAny_bind ?_
  exact rc_eq_decline_or (k := false) (typeIs_str s b u) ⟨_, ho, rfl⟩ (by decide) F.sub_dict_str F.slot_str_eq F.slot_dict_eq_refl
    (fun _ hq => call_meets F.slot_str_eq (typeIs_str s b u) F.entry_str_eq (F.args_str_eq_2 _ _) (str_eq_no_dict b u l (.type "dict") es n dd sl) ⟨ho, hq⟩)
    (fun _ hq => call_meets F.slot_dict_eq_refl ⟨_, ho, rfl⟩ F.entry_dict_eq (F.args_dict_eq_2 _ _) (dict_eq_no_str l es n dd sl b u) ⟨ho, hq⟩)
    (fun _ hq => wpAny_of_eq (rfl : isSame (.str b u) (.ref l) = pure false) hq) (.inr hu) (wpAny_truthy_bool h)
end
/-! ### v in a tuple of texts -/
def Dt.isIn (zs : List Str) : Dt → Bool
  | .sc (.str x) => decide (x ∈ zs)
  | _ => false
theorem strs_of : ∀ (zs : List Str) (us : List Value), Vals (zs.map V.str) us → ∀ u ∈ us, ∃ z tk, u = Value.str z tk
  | [], us, r => by cases r; exact fun u m => absurd m List.not_mem_nil
  | z :: zs, us, r => by
    cases r with
    | cons r1 r2 =>
      intro u m
      rcases List.mem_cons.mp m with rfl | m
      · obtain ⟨t, e⟩ := r1
        exact ⟨z, t, e⟩
      · exact strs_of zs _ r2 u m
theorem inV_no {x : V} (h : ∀ y, eqV (.str y) x = false) : ∀ zs : List Str, inV x (zs.map V.str) = false
  | [] => rfl
  | z :: zs => by
    have := inV_no h zs
    unfold inV at this ⊢
    rw [List.map_cons, List.any_cons, h z, this]
    rfl
section
variable {X : Cx}
def rNotInO (K : PySem.W.Frag) : R2 := fun x y H Q => ∃ (p : Addr) (zs : List Str) (t : Dt), y = .ref p ∧ SqT K H p (zs.map V.str) ∧ OdAt H x t ∧ Q (.bl (!t.isIn zs)) H
theorem op_notInO {k : Nat} (room : Room k X.A) : OpR X (compareOp .NotIn) (rNotInO X.K) := by
  intro pins st σ h x y v u Z inv rx ry pre
  obtain ⟨p, zs, t, rfl, sq, od, z⟩ := pre
  have un := room.un
  have flat : ∀ sc : Sc, x = sc.v → inV x (zs.map V.str) = (Dt.sc sc).isIn zs → t = .sc sc → wpAny (model X.prog X.w) X.A (compareOp .NotIn v u) (EP X pins σ Z) X.xe st := by
    intro sc e1 e2 e3
    subst e3
    refine op_notIn_seq pins st σ h x (.ref p) v u Z inv rx ry ⟨p, _, rfl, .inr sq, ?_, KB.flat_strs zs, ?_⟩
    · rw [e1]
      cases sc <;> rfl
    · show Z (.bl (!inV x (zs.map V.str))) h
      rw [e2]
      exact z
  have far : t.isIn zs = false → (∀ b tk A', A'.units ≤ X.A.units + 1 → SeqAt.EqAt A' st (.str b tk) v false) → wpAny (model X.prog X.w) X.A (compareOp .NotIn v u) (EP X pins σ Z) X.xe st := by
    intro e1 e2
    obtain rfl : u = Value.ref p := ry
    obtain ⟨its, r, pl, hz⟩ := inv.tuple sq
    refine SeqAt.notIn_tupleAt (fun _ => false) pl (fun w hw => ?_) ⟨.bl true, h, inv, ?_, ?_⟩
    · obtain ⟨b, tk, rfl⟩ := strs_of zs its r w (by simpa using hw)
      exact e2 b tk _ (Nat.le_refl _)
    · show Value.bool _ = Value.bool true
      simp
    · rw [e1] at z
      exact z
  cases t with
  | sc s =>
    have e : x = s.v := od
    refine flat s e ?_ rfl
    rw [e]
    cases s with
    | non => exact inV_no (fun _ => rfl) zs
    | bl b => exact inV_no (fun _ => rfl) zs
    | int i => exact inV_no (fun _ => rfl) zs
    | str x => exact inV_strs zs
  | tup l =>
    obtain ⟨a, rfl, e⟩ := od
    obtain rfl : v = Value.ref a := rx
    obtain ⟨its, rv, tp, _⟩ := inv.tuple (SqT.of e)
    exact far rfl fun b tk A' hA => SeqAt.EqAt.str_tuple b tk tp (by omega)
  | lst l =>
    obtain ⟨a, rfl, e⟩ := od
    obtain rfl : v = Value.ref a := rx
    obtain ⟨its, rv, tp, _⟩ := inv.list (SqL.of e)
    exact far rfl fun b tk A' hA => SeqAt.EqAt.str_list b tk tp.isList (by omega)
  | dct l =>
    obtain ⟨a, rfl, e⟩ := od
    obtain rfl : v = Value.ref a := rx
    obtain ⟨_, ns, vs, kv, ob, es, ep, ho, hex, hd, _, prs, _⟩ := dk_of inv.hok e
    exact far rfl fun b tk A' hA => eqAt_str_dict b tk ho hex.1 hd (by omega)
end
/-! ### its type -/
def Dt.ty : Dt → String
  | .sc .non => "NoneType"
  | .sc (.bl _) => "bool"
  | .sc (.int _) => "int"
  | .sc (.str _) => "str"
  | .tup _ => "tuple"
  | .lst _ => "list"
  | .dct _ => "dict"
theorem OdAt.tyX {K : PySem.W.Frag} {H : Hp} {v : V} {t : Dt} (h : OdAt H v t) : TyX K H v (.type t.ty) := by
  cases t with
  | sc s =>
    obtain rfl : v = s.v := h
    cases s with
    | non => exact .base .non
    | bl b => exact .base (.bl b)
    | int i => exact .base (.int i)
    | str x => exact .base (.str x)
  | tup l => obtain ⟨a, rfl, e⟩ := h; exact .base (.tup e)
  | lst l => obtain ⟨a, rfl, e⟩ := h; exact .base (.lst e)
  | dct l => obtain ⟨a, rfl, e⟩ := h; exact .base (.dK e)
def Dt.isStr : Dt → Bool
  | .sc (.str _) => true
  | _ => false
theorem r_isStr {K : PySem.W.Frag} {H : Hp} {Q : VK} {v : V} {t : Dt} (h : OdAt H v t) (q : Q (.bl t.isStr) H) : rIsi K [v, .ty "str"] H Q := by
  refine ⟨v, .ty "str", _, .type "str", t.isStr, rfl, .ty _, h.tyX, ?_, q⟩
  have h1 : kitB "NoneType" "str" = some false ∧ kitB "bool" "str" = some false ∧ kitB "int" "str" = some false ∧ kitB "str" "str" = some true ∧ kitB "tuple" "str" = some false ∧ kitB "list" "str" = some false ∧ kitB "dict" "str" = some false := by decide +kernel
  cases t with
  | sc s =>
    cases s with
    | non => exact kit_ty h1.1
    | bl b => exact kit_ty h1.2.1
    | int i => exact kit_ty h1.2.2.1
    | str x => exact kit_ty h1.2.2.2.1
  | tup l => exact kit_ty h1.2.2.2.2.1
  | lst l => exact kit_ty h1.2.2.2.2.2.1
  | dct l => exact kit_ty h1.2.2.2.2.2.2
/-! ### list.count of truths -/
section
variable {X : Cx}
def rCntB (K : PySem.W.Frag) : V → List V → Hp → VK → Prop := fun x xs H Q => ∃ (p : Addr) (bs : List Bool) (b : Bool), x = .ref p ∧ xs = [.bl b] ∧ SqL K H p (bs.map V.bl) ∧ Q (.int (bs.count b : Nat)) H
theorem bls_of : ∀ (bs : List Bool) (us : List Value), Vals (bs.map V.bl) us → us = bs.map Value.bool
  | [], us, r => by cases r; rfl
  | b :: bs, us, r => by
    cases r with
    | cons r1 r2 =>
      rw [bls_of bs _ r2, show _ = Value.bool b from r1]
      rfl
theorem mt_countB : MtR X "list.count" (rCntB X.K) := by
  intro pins s σ H x xs v us Q I rx rxs h
  obtain ⟨p, bs, b, rfl, rfl, hs, q⟩ := h
  cases rx
  obtain ⟨u, rfl, ru⟩ := rxs.one
  obtain rfl : u = Value.bool b := ru
  obtain ⟨its, rv, ⟨⟨cls, dd, data, sl⟩, n, ho, hc, hdn, hd⟩, hlen⟩ := I.list hs
  simp only at hc hd
  subst hc hd
  have hi := bls_of bs its rv
  subst hi
  refine call_meets PySem.F.slot_list_count ⟨_, ho, rfl⟩ PySem.F.entry_list_count (PySem.F.args_list_count_2 _ _)
    (SeqAt.list_countAt p (bs.map Value.bool).toArray n dd sl (.bool b) (fun y => match y with | .bool c => c == b | _ => false)) ⟨ho, fun y hy => ?_, ?_⟩
  · have hy' : y ∈ bs.map Value.bool := by simpa using hy
    obtain ⟨c, _, rfl⟩ := List.mem_map.mp hy'
    exact SeqAt.EqAt.bool_bool c b
  · have ec : (bs.map Value.bool).toArray.toList.countP (fun y => match y with | .bool c => c == b | _ => false) = bs.count b := by
      show (bs.map Value.bool).countP _ = _
      rw [List.countP_map]
      rfl
    refine ⟨.int (bs.count b : Nat), H, I.tok _, ⟨s.toks, ?_⟩, q⟩
    show Value.int ((_ : Nat) : Int) s.toks = Value.int ((bs.count b : Nat) : Int) s.toks
    rw [ec]
end
end KY

/-! KL: lambdas handed to a def that asks them; the law's end with tables of code objects, no repr under way; own == beside other types. -/
namespace KL
open PySem PySem.Spec PyProof.Rows L2 KB KG LamX
/-! ### the law's end -/
section
variable {P : Program} {w : World} {K : PySem.W.Frag} {mg bm : Str → Option Value} {k : Nat} {fa a : Addr} {cs : List (Addr × Addr)} {fd : FuncData} {x : Str} {sp : Sp} {st : Shared} {us : List Value} {ns : List Int}
def TabIs (cs : List (Addr × Addr)) (b : Addr) : Prop := ∃ p ∈ cs, p.2 = b
theorem law_GT (kin : K.In st.heap) (gl : st.heap.Ns mainGlobals mg) (bl : st.heap.Ns builtinsNs bm) (bb : ∀ y : Str, y ≠ "__name__" → bm y = bootBuiltins y) (nolim : st.heap.NoLimit) (nogen : st.gens = #[])
    (empty : ∀ p ∈ cs, st.heap.get? p.2 = some (PySem.W.tabObj #[])) (off : ∀ p ∈ cs, K.lookup p.2 = none) (codes : ∀ p ∈ cs, PySem.W.CodeHd st.heap p.1 p.2)
    (bmain : ∃ (m : Addr) (ob : Obj), mg "__builtins__" = some (.ref m) ∧ m ≠ builtinsNs ∧ st.heap.get? m = some ob ∧ ob.cls = .type "module" ∧ ob.dict = some builtinsNs ∧ ob.data = .plain)
    (at_ : st.heap.get? a = some { cls := .type "list", data := .seq us.toArray }) (allInt : IntsAre us ns) (few : ns.length ≤ sizeLine) (room : Room k callerA)
    (F : ∀ base : Heap, K.In base → base.Ns mainGlobals mg → (∀ p ∈ cs, TabB base mg p.1 p.2) → FnG P w K mg base CX0 k fa fd [x] sp) (bind : ∀ (s : Shared) (u : Value), BindsTo s fd ⟨[u], []⟩ [(x, u)])
    (pre : ∀ H : Hp, (∀ p ∈ cs, H p.2 = some (.tbl #[])) → SqL K H a (ns.map V.int) → sp [.ref a] H (fun v _ => v = .bl true) fun _ _ _ => False) :
    codeAny (model P w) callerA (.call (.ref fa) ⟨[.ref a], []⟩) (fun r s2 => r = .ok (.ret (.bool true)) ∧ OldK st.heap s2.heap ∧ s2.os = st.os ∧ AllBare s2.gens) st := by
  classical
  have isT : ∀ {b : Addr}, TabIs cs b → st.heap.get? b = some (PySem.W.tabObj #[]) := fun {b} ⟨p, hp, e⟩ => e ▸ empty p hp
  have aT : ¬ TabIs cs a := fun z => by
    have y := isT z
    rw [at_] at y
    have y2 : Data.seq us.toArray _ = Data.fields #[] := congrArg Obj.data (Option.some.inj y)
    cases y2
  have main : ∀ H : Hp, (∀ b, TabIs cs b → H b = some (.tbl #[])) → (∀ b, H b = none ∨ TabIs cs b ∨ ∃ o ys, H b = some (.frz o (.lst ys))) → SqL K H a (ns.map V.int) → HOk P w H st.heap → (∀ b, H b ≠ none → b = a ∨ TabIs cs b) → (H a ≠ none → K.lookup a = none) →
      codeAny (model P w) callerA (.call (.ref fa) ⟨[.ref a], []⟩) (fun r s2 => r = .ok (.ret (.bool true)) ∧ OldK st.heap s2.heap ∧ s2.os = st.os ∧ AllBare s2.gens) st := by
    intro H tabs only sq hok isA noK
    have free_of : ∀ {b : Addr} {o : Obj}, st.heap.get? b = some o → (∀ ys m, o.data ≠ .seq ys m) → o.data ≠ .fields #[] → H b = none := by
      intro b o e nd nf
      cases q : H b with
      | none => rfl
      | some z =>
        rcases isA b (by rw [q]; simp) with eb | eb
        · rw [eb, at_] at e
          exact absurd (congrArg Obj.data (Option.some.inj e)).symm (nd _ _)
        · rw [isT eb] at e
          exact absurd (congrArg Obj.data (Option.some.inj e)).symm nf
    have kb : K.In (hidT st.heap H) := by
      intro b o e
      refine hidT_get (kin b o e) ?_
      cases q : H b with
      | none => rfl
      | some z =>
        rcases isA b (by rw [q]; simp) with eb | ⟨p, hp, eb⟩
        · rw [eb] at e q
          rw [noK (by rw [q]; simp)] at e
          cases e
        · rw [← eb, off p hp] at e
          cases e
    have ns_of : ∀ {b : Addr} {m : Str → Option Value}, st.heap.Ns b m → (hidT st.heap H).Ns b m := by
      intro b m h
      obtain ⟨o, es, ep, e, d, r⟩ := h
      exact ⟨o, es, ep, hidT_get e (free_of e (fun ys n z => by rw [d] at z; cases z) (fun z => by rw [d] at z; cases z)), d, r⟩
    have hm : Mod K mg (hidT st.heap H) := ⟨kb, ns_of gl, ⟨bm, ns_of bl, bb⟩, by obtain ⟨mc, z1, z2⟩ := nolim; exact ⟨mc, ns_of z1, z2⟩⟩
    have tb : ∀ p ∈ cs, TabB (hidT st.heap H) mg p.1 p.2 := by
      intro p hp
      have hTp := empty p hp
      refine ⟨?_, ?_, fun z => ?_⟩
      · obtain ⟨o, ws, file, tf, flags, tg, inF, text, tt, e1, r1, r2, r3, rest⟩ := codes p hp
        refine ⟨o, ws, file, tf, flags, tg, inF, text, tt, hidT_get e1 (free_of e1 (fun ys n z => by rw [r2] at z; cases z) (fun z => ?_)), r1, r2, r3, rest⟩
        rw [r2] at z
        cases z
        simp at r3
      · obtain ⟨m, ob, b1, b2, b3, b4, b5, b6⟩ := bmain
        refine ⟨m, ob, b1, b2, fun q => ?_, fun q => ?_, hidT_get b3 (free_of b3 (fun ys n z => by rw [b6] at z; cases z) (fun z => by rw [b6] at z; cases z)), b4, b5, b6⟩
        · obtain ⟨o, es, ep, e, hd, _⟩ := gl
          rw [q, e] at b3
          cases b3
          rw [hd] at b6
          cases b6
        · rw [q, hTp] at b3
          cases b3
          cases b6
      · obtain ⟨o, es, ep, e, hd, _⟩ := gl
        rw [z, hTp] at e
        cases e
        cases hd
    have env : Env0 P w K mg (hidT st.heap H) callerA [] st H := ⟨rfl, hm, fun b o e => of_hidT e, Nat.le_of_eq (hidT_size _ _), trivial, fun b z => (List.not_mem_nil z).elim, hok, .of_eq nogen⟩
    refine codeAny_mono ((F _ kb (ns_of gl) tb).go callerA rfl [] st H ⟨[.ref a], []⟩ [.ref a] [.ref a] _ _ room env (bind st (.ref a)) (.cons rfl .nil) (pre H (fun p hp => tabs _ ⟨p, hp, rfl⟩) sq)) fun res s2 z => ?_
    match res, z with
    | .error e, z => exact z.elim
    | .ok .next, z => exact z.elim
    | .ok .brk, z => exact z.elim
    | .ok .cont, z => exact z.elim
    | .ok (.ret u), z =>
      obtain ⟨v, H2, z1, z2, un, hok2, rel, rfl⟩ := z
      obtain rfl : u = Value.bool true := rel
      have stay : ∀ b o, ¬ TabIs cs b → st.heap.get? b = some o → s2.heap.get? b = some o := by
        intro b o nb e
        cases q : H b with
        | none => exact un.keep b o e q (fun y => List.not_mem_nil y) (fun y => List.not_mem_nil y)
        | some y =>
          rcases only b with y1 | y1 | ⟨o1, ys, y1⟩
          · rw [q] at y1; cases y1
          · exact absurd y1 nb
          · have y2 := (hok b _ y1).1
            have y3 := (hok2 b _ (un.frzs b o1 _ y1)).1
            rw [e] at y2
            rw [Option.some.inj y2]
            exact y3
      have grown : ∀ p ∈ cs, ∃ more : Array Value, s2.heap.get? p.2 = some { cls := .none, data := .fields more } := by
        intro p hp
        obtain ⟨more, y⟩ := un.tbls p.2 #[] (tabs _ ⟨p, hp, rfl⟩)
        exact ⟨_, hok2 p.2 _ y⟩
      refine ⟨rfl, ⟨fun b o e => ?_, fun b o e => ?_⟩, z1, z2⟩
      · by_cases hb : TabIs cs b
        · obtain ⟨p, hp, rfl⟩ := hb
          obtain ⟨more, g⟩ := grown p hp
          rw [empty p hp] at e
          cases e
          exact .inr (.inl ⟨((codes p hp).tab (empty p hp)).isCodeTable, rfl, #[], more, rfl, by rw [Array.empty_append]; exact g⟩)
        · exact .inl (stay b o hb e)
      · by_cases hb : TabIs cs b
        · obtain ⟨p, hp, rfl⟩ := hb
          obtain ⟨more, g⟩ := grown p hp
          exact ⟨_, g⟩
        · exact ⟨o, stay b o hb e⟩
  have vals := vals_ints allInt
  have lens := allInt.length
  cases look : K.lookup a with
  | some o =>
    have e := kin a o look
    rw [at_] at e
    obtain rfl := Option.some.inj e
    refine main (fun b => if TabIs cs b then some (.tbl #[]) else none) (fun b hb => if_pos hb) (fun b => ?_) (.inr ⟨_, us.toArray, _, look, rfl, rfl, rfl, by rw [List.size_toArray, lens]; exact few, by simpa using vals⟩) (fun b u z => ?_) (fun b z => ?_) (fun z => absurd (if_neg aT) z)
    · by_cases hb : TabIs cs b
      · exact .inr (.inl hb)
      · exact .inl (if_neg hb)
    · by_cases hb : TabIs cs b
      · have y := (if_pos hb).symm.trans z
        cases y
        exact isT hb
      · have y := (if_neg hb).symm.trans z
        cases y
    · by_cases hb : TabIs cs b
      · exact .inr hb
      · exact absurd (if_neg hb) z
  | none =>
    refine main (upd (fun b => if TabIs cs b then some (.tbl #[]) else none) a (.frz { cls := .type "list", data := .seq us.toArray } (.lst (ns.map V.int)))) (fun b hb => ?_) (fun b => ?_) (.inl (.inr ⟨_, upd_same⟩)) (fun b y z => ?_) (fun b z => ?_) fun _ => look
    · rw [upd_ne (show b ≠ a from fun z => aT (by rw [← z]; exact hb))]
      exact if_pos hb
    · by_cases eb : b = a
      · rw [eb, upd_same]; exact .inr (.inr ⟨_, _, rfl⟩)
      · rw [upd_ne eb]
        by_cases hb : TabIs cs b
        · exact .inr (.inl hb)
        · exact .inl (if_neg hb)
    · by_cases eb : b = a
      · subst eb
        rw [upd_same] at z
        obtain rfl := Option.some.inj z
        exact ⟨at_, by rw [List.length_map]; exact few, us, _, vals, at_⟩
      · rw [upd_ne eb] at z
        by_cases hb : TabIs cs b
        · have y := (if_pos hb).symm.trans z
          cases y
          exact isT hb
        · have y := (if_neg hb).symm.trans z
          cases y
    · by_cases eb : b = a
      · exact .inl eb
      · by_cases hb : TabIs cs b
        · exact .inr hb
        · exact absurd ((upd_ne eb).trans (if_neg hb)) z
end
/-- the goal that the head leaves, from the law's own promise; names: the defs whose tables are wanted -/
theorem walkGT {l : PySem.W.OpenLaw} {n k : Nat} {q : Program} {loose : List Str} {XP : (Str → Option Value) → Heap → Prop} {YP : World → Heap → Prop} {d : DefRec} {K : Params → PySem.W.Frag} {sp : World → List (Addr × Addr) → Sp} {x : Str} {names : List Str}
    (hn : l.most = some n) (n2 : n ≤ sizeLine) (nodef : d.params.defaults = []) (room : Room k callerA) (recs : (names.all fun y => (recsOf q).any fun e => e.name == y) = true) (hY : ∀ (w : World) (h : Heap), YP w h → (K w.params).In h)
    (F : ∀ (w : World) (mg : Str → Option Value) (fa : Addr) (h : Heap), (K w.params).In h → h.Ns mainGlobals mg → mg d.name = some (.ref fa) →
      ∃ (fd : FuncData) (cs : List (Addr × Addr)), cs.length = names.length ∧ (∀ p ∈ names.zip cs, PySem.W.tabIn (K w.params) p.1 = some p.2) ∧ (∀ p ∈ cs, (K w.params).lookup p.2 = none) ∧ (∀ (s : Shared) (u : Value), BindsTo s fd ⟨[u], []⟩ [(x, u)]) ∧
        ∀ base : Heap, (K w.params).In base → base.Ns mainGlobals mg → (∀ p ∈ cs, TabB base mg p.1 p.2) → FnG l.prog w (K w.params) mg base CX0 k fa fd [x] (sp w cs))
    (pre : ∀ (w : World) (H : Hp) (a : Addr) (cs : List (Addr × Addr)) (ns : List Int), ns.length ≤ n → (∀ p ∈ cs, H p.2 = some (.tbl #[])) → SqL (K w.params) H a (ns.map V.int) → sp w cs [.ref a] H (fun v _ => v = .bl true) fun _ _ _ => False) :
    PySem.W.WalkO q loose XP YP l.row.toRowW d [] (fun f vs => PySem.call f vs) := by
  refine Att.attach_callB hn nodef fun w s0 st mg bm fa o pm cd doc a us ns G Y ho hd hcd hmg hobj allInt size _ nogen => ?_
  have kin := hY w _ Y
  obtain ⟨fd, cs, len, tabs, off, bind, hF⟩ := F w mg fa _ kin G.T.g hmg
  have each : ∀ p ∈ cs, PySem.W.CodeHd st.heap p.1 p.2 ∧ st.heap.get? p.2 = some (PySem.W.tabObj #[]) := by
    intro p hp
    obtain ⟨i, hi, e⟩ := List.getElem_of_mem hp
    have hi2 : i < names.length := by omega
    have m : (names[i], p) ∈ names.zip cs := by
      rw [← e]
      have hz : i < (names.zip cs).length := by rw [List.length_zip]; omega
      have := List.getElem_mem hz
      rwa [List.getElem_zip] at this
    have t := tabs _ m
    have r := List.all_eq_true.mp recs names[i] (List.getElem_mem hi2)
    have s : ((recsOf q).find? fun e => e.name == names[i]).isSome = true := by
      rw [List.find?_isSome]
      obtain ⟨y, y1, y2⟩ := List.any_eq_true.mp r
      exact ⟨y, y1, y2⟩
    obtain ⟨dL, hL⟩ := Option.isSome_iff_exists.mp s
    exact PySem.W.tab_of G.T kin hL t
  exact law_GT kin G.T.g G.T.b G.T.builtins G.T.nolimit nogen (fun p hp => (each p hp).2) off (fun p hp => (each p hp).1) G.T.bmain hobj allInt (Nat.le_trans size n2) room hF bind fun H hH sq => pre w H a cs ns size hH sq
/-! ### tables kept -/
theorem tabs_to {T : List (Addr × Str)} {H H' : Hp} (t : Tabs T H) (k : ∀ b o, H b = some o → (∀ xs, o ≠ .lst xs) → H' b = some o) : Tabs T H' := by
  intro p hp
  obtain ⟨ps, h1, h2, h3⟩ := t p hp
  refine ⟨ps, k _ _ h1 (fun xs z => by cases z), h2, fun pos cv hc => ?_⟩
  obtain ⟨c, e1, e2⟩ := h3 pos cv hc
  exact ⟨c, e1, k _ _ e2 (fun xs z => by unfold CodeO at z; cases z)⟩
theorem tabs_same {T : List (Addr × Str)} {H H' : Hp} (t : Tabs T H) (s : Same H H') : Tabs T H' := tabs_to t fun b o e _ => s b o e
/-- an exception taken knows how many names there are -/
theorem takes_len {X : Cx} {W : WX} (tk : Takes X W) : Takes X (fun cls d σ H => σ.length = X.N.length → W cls d σ H) := fun u s' ⟨a, B, sI, pins, σ, H, cls, d, e, I, nb, up, sky, na, os, ag, w⟩ =>
  tk u s' ⟨a, B, sI, pins, σ, H, cls, d, e, I, nb, up, sky, na, os, ag, w I.len⟩
/-- what the lambda's body lets out -/
theorem lam_takes {X : Cx} {A : Around} {outer : List Env} {s : Shared} {H : Hp} {E : XK} {scope : Scope} {f c' : Addr} : Takes (lamCx X A outer s H E scope f c') (fun cls d _ H' => E cls d H') := takes_of rfl rfl rfl rfl
theorem lam_pass {X : Cx} {A : Around} {outer : List Env} {s : Shared} {H : Hp} {E : XK} {scope : Scope} {f c' : Addr} : Passes (L2.CX X.prog X.w) (lamCx X A outer s H E scope f c') E := passes_call lam_takes fun _ _ _ _ h => h
/-- what a def that may raise lets out -/
theorem def_takes {P : Program} {w : World} {K : PySem.W.Frag} {mg : Str → Option Value} {base : Heap} {N : List Str} {ql : Str} {sc : Scope} {f : Addr} {cv : Value} {A : Around} {out : List Env} {st : Shared} {h : Hp} {E : XK} : Takes (cxOf (L2.CX P w) P w K mg base N ql sc f cv A out st h E) (fun cls d _ H' => E cls d H') := takes_of rfl rfl rfl rfl
/-! ### own == beside a value of another type -/
section
variable {X : Cx}
def rEqOth (K : PySem.W.Frag) (C : Addr) (sp : Sp) : R2 := fun x y H Q => ∃ (a dx : Addr) (fs : List (Str × V)) (T : String), x = .ref a ∧ H a = some (.ins C dx fs) ∧ TyB K H y T ∧ (T = "str" ∨ T = "list" ∨ T = "tuple") ∧ PySem.W.notFirst K C (.type T) = true ∧ sp [x, y] H Q E0
theorem ty_looks {M : Model} {s : Shared} {u : Value} {T : String} (h : s.TypeIs u T) (hT : T = "str" ∨ T = "list" ∨ T = "tuple") (hu : (∃ z t, u = .str z t) ∨ ∃ b, u = .ref b) : PySem.W.Looks M s.heap (typeOf u) (.type T) := by
  rcases hu with ⟨z, t, rfl⟩ | ⟨b, rfl⟩
  · intro A Q E s' k q
    have e : typeOf (.str z t) = pure (.type "str") := rfl
    have e2 : typeOf (.str z t) = pure (.type T) := h
    rw [e2]
    exact wpAny_pure q
  · obtain ⟨o, g, c⟩ := h
    exact fun A Q E s' k q => wpAny_typeOf_ref (k _ _ g) (by rw [c]; exact q)
theorem op_eqOth {C : Addr} {ps : List Str} {sp : Sp} {n : Nat} (c : KO.OwnM X.prog X.w X.K X.mg X.base n C "__eq__" ps sp) (room : Room n X.A) : OpR X (compareOp .Eq) (rEqOth X.K C sp) := by
  obtain ⟨g, fd, hs, hf, F, bind⟩ := c.ex
  intro pins st σ h x y v u Z inv rx ry pre
  obtain ⟨a, dx, fs, T, rfl, ha, ty, hT, nf, z⟩ := pre
  obtain rfl : v = Value.ref a := rx
  obtain ⟨od, J⟩ := KO.inst_of inv ha
  obtain ⟨m, hF⟩ := inv.fr
  have hu : (∃ z t, u = .str z t) ∨ ∃ b, u = .ref b := by
    cases ty with
    | str x => obtain ⟨t, rfl⟩ := (show ∃ t, u = Value.str x t from ry); exact .inl ⟨_, _, rfl⟩
    | @lst b => exact .inr ⟨b, ry⟩
    | @tup b => exact .inr ⟨b, ry⟩
    | non => exact absurd hT (by decide)
    | bl => exact absurd hT (by decide)
    | int => exact absurd hT (by decide)
    | byt => exact absurd hT (by decide)
    | dK => exact absurd hT (by decide)
  have lk := ty_looks (M := model X.prog X.w) (ty.is inv ry) hT hu
  rw [show compareOp .Eq (.ref a) u = richCompare .Eq (.ref a) u from rfl]
  refine PySem.W.cmp_K (op := .Eq) (tb := .type T) room.units0 hF inv.ok.mod.kin J lk nf hs hf ?_
  refine wpAny_mono (KO.run0 (E' := X.xe) (xs := [.ref a, y]) F room inv.env0 bind inv (.cons rfl (.cons ry .nil)) z) (fun w s2 r => ?_) fun _ _ z => z
  obtain ⟨z', h2, inv2, rz, qz⟩ := r
  exact SlX.cmpback rz ⟨z', h2, inv2, rz, qz⟩
end
end KL

/-! KC: own objects called, shown by repr, compared with data of any type; classes made with defaults. -/
namespace KC
open PySem PySem.Spec PyProof.Rows L2 KB KG KO
theorem cx_KX {CX : CXT} {P : Program} {w : World} {K : PySem.W.Frag} {mg : Str → Option Value} {base : Heap} {N : List Str} {qual : Str} {sc : Scope} {f : Addr} {cd : Value} {A : Around} {outer : List Env} {s : Shared} {H : Hp} {E : XK} : (cxOf CX P w K mg base N qual sc f cd A outer s H E).K = K := rfl
/-! ### b(e, ..), b an own object -/
section
variable {M : Model} {A : Around} {E : Value → Shared → Prop} {s : Shared} {C dx x : Addr} {pos : Pos} {Q : Value → Shared → Prop}
theorem callWith_own {args : List (Bool × Sem Value)} {kws : List (Option Str × Sem Value)} (plain : (args.any (·.1) || kws.any (·.1.isNone)) = false)
    (h : wpAny M A (evalArgs (.ref x) true args kws) (fun a t => (∃ od, PySem.W.InstAt t.heap x (PySem.W.instObj C dx) C od) ∧ wpAny M A (call (.ref x) a.pos a.kw) Q E t) E s) : wpAny M A (callWith pos (.ref x) [] args kws) Q E s := by
  unfold callWith
  refine wpAny_bind (wpAny_holding (wpAny_mono h (fun a t g => wpAny_bind (wpAny_standAt ?_)) fun _ _ y => y))
  obtain ⟨od, J⟩ := g.1
  have L := PySem.W.kco_keeper (M := M) J rfl
  simp only [plain]
  refine wpAny_bind (L.here ?_)
  have tail : ∀ {m : Sem Value}, wpAny M A m Q E t → wpAny M A (m >>= fun r => holding [r] point >>= fun _ => pure r) Q E t :=
    fun hm => wpAny_bind (wpAny_mono hm (fun r u hr => wpAny_bind (wpAny_holding (wpAny_point (wpAny_pure hr)))) fun _ _ y => y)
  exact tail (wpAny_operateT g.2)
end
section
variable {X : Cx}
structure OwnC (P : Program) (w : World) (K : PySem.W.Frag) (mg : Str → Option Value) (base : Heap) (CX : CXT) (k : Nat) (C : Addr) (ps : List Str) (sp : Sp) : Prop where
  ex : ∃ (g : Addr) (fd : FuncData), PySem.W.findIn K (.ref C) "__call__" = some (some (.ref g)) ∧ PySem.W.isFn K (.ref g) = true ∧ PySem.W.fnIn K g = true ∧ FnOk P w K mg base CX k g fd ps sp ∧ Binds K fd ps []
def tCallO (C : Addr) (sp : Sp) (E : XK) (tf : TE) (t : TA) : TE := fun σ H Q => tf σ H fun x H1 => ∃ (a dx : Addr) (fs : List (Str × V)), x = .ref a ∧ H1 a = some (.ins C dx fs) ∧ t σ H1 fun vs H2 => H2 a = some (.ins C dx fs) ∧ sp (x :: vs) H2 Q E
theorem pe_callO {CX : CXT} {k : Nat} {C : Addr} {x : Str} {ps : List Str} {sp : Sp} {E : XK} {e : Expr} {es : List Expr} {p pos : Pos} {tf : TE} {t : TA} (c : OwnC X.prog X.w X.K X.mg X.base CX k C ps sp) (room : Room k X.A) (pass : Passes CX X E) (hf : PE X (.Name x p) tf) (ha : PA X (e :: es) t)
    (d2 : starEach (e :: es) X.env = (false, eval e X.env) :: starEach es X.env := by rfl) (d3 : (backTo pos (starEach es X.env)).any (·.1) = false := by rfl) :
    PE X (.Call (.Name x p) (e :: es) [] pos) (tCallO C sp E tf t) := by
  obtain ⟨g, fd, hs, hfn, hfi, F, bind⟩ := c.ex
  refine ⟨fun pins st σ h Z inv pre => wpAny_Call_Name_kw (thn (hf.run pins st σ h _ inv pre) fun u s1 r => ?_)⟩
  obtain ⟨v, h1, inv1, rv, a, dx, fs, rfl, ea, z⟩ := r
  obtain rfl : u = Value.ref a := rv
  refine callWith_own (C := C) (dx := dx) (by rw [d2]; show ((false || (backTo pos (starEach es X.env)).any (·.1)) || false) = false; rw [d3]; rfl) ?_
  have main := thn (Q' := fun (ws : List Value) (s2 : Shared) => (∃ od, PySem.W.InstAt s2.heap a (PySem.W.instObj C dx) C od) ∧ wpAny (model X.prog X.w) X.A (call (.ref a) ws) (EP X pins σ Z) X.xe s2) (ha.run pos pins s1 σ h1 _ inv1 z) fun ws s2 r => ?_
  · rw [d2] at main ⊢
    exact Calls.evalArgs_plain main
  · obtain ⟨xs, h2, inv2, rel, ea2, z2⟩ := r
    obtain ⟨od, J⟩ := inst_of inv2 ea2
    refine ⟨⟨_, J⟩, ?_⟩
    have rel2 : Vals (V.ref a :: xs) (Value.ref a :: ws) := .cons rfl rel
    have size : ((Value.ref a :: ws) ++ []).length = ps.length := by rw [List.append_nil, ← rel2.length]; exact F.len _ _ _ _ z2
    have bd := bind s2 (Value.ref a :: ws) inv2.kIn size
    rw [List.append_nil] at bd
    refine wpAny_call (codeAny_mono (PySem.W.kco_code inv2.kIn J rfl hs hfn hfi (F.run X.A X.stack s2 h2 ⟨Value.ref a :: ws, []⟩ _ _ Z E room inv2.env0 bd rel2 z2)) fun res s3 y => ?_)
    match res, y with
    | .error e, y => exact pass pins σ h2 s2 e s3 inv2 y
    | .ok (.ret u), y => exact inv2.after y
    | .ok .next, y => exact y.elim
    | .ok .brk, y => exact y.elim
    | .ok .cont, y => exact y.elim
/-! ### repr(o) by own __repr__ -/
def rReprOwn (C : Addr) (sp : Sp) : List V → Hp → VK → Prop := fun xs H Q => ∃ a dx fs, xs = [.ref a] ∧ H a = some (.ins C dx fs) ∧ sp [.ref a] H (fun v H' => ∃ t, v = .str t ∧ Q (.str t) H') E0
theorem call_reprO {C : Addr} {ps : List Str} {sp : Sp} {n : Nat} (c : OwnM X.prog X.w X.K X.mg X.base n C "__repr__" ps sp) (room : Room (n + 1) X.A) : CallR X (.builtin "repr") (rReprOwn C sp) := by
  obtain ⟨g, fd, hs, hf, F, bind⟩ := c.ex
  intro pins st σ h xs us Z inv rel pre
  obtain ⟨a, dx, fs, rfl, ha, z⟩ := pre
  obtain ⟨u, rfl, ru⟩ := vals_one rel
  obtain rfl : u = Value.ref a := ru
  obtain ⟨od, J⟩ := inst_of inv ha
  obtain ⟨m, hF⟩ := inv.fr
  have un := room.un
  refine PySem.W.repr_K (show X.A.units + 1 < cLine by omega) hF inv.ok.mod.kin J hs hf ?_
  refine wpAny_mono (run0 (E' := X.xe) (xs := [.ref a]) F room.in1 inv.env0.in1 bind inv (.cons rfl .nil) z) (fun w s2 r => ?_) fun _ _ z => z
  obtain ⟨v', h2, inv2, rz, t, rfl, q2⟩ := r
  obtain ⟨tk, rfl⟩ : ∃ tk, w = Value.str t tk := rz
  exact ⟨.str t, h2, inv2, ⟨tk, rfl⟩, q2⟩
/-! ### own == beside data -/
def rEqAny (K : PySem.W.Frag) (C : Addr) (sp : Sp) : R2 := fun x y H Q => ∃ (a dx : Addr) (fs : List (Str × V)) (T : String), x = .ref a ∧ H a = some (.ins C dx fs) ∧ TyB K H y T ∧ T ≠ "bytes" ∧ PySem.W.notFirst K C (.type T) = true ∧ sp [x, y] H Q E0
theorem op_eqAny {C : Addr} {ps : List Str} {sp : Sp} {n : Nat} (c : OwnM X.prog X.w X.K X.mg X.base n C "__eq__" ps sp) (room : Room n X.A) : OpR X (compareOp .Eq) (rEqAny X.K C sp) := by
  obtain ⟨g, fd, hs, hf, F, bind⟩ := c.ex
  intro pins st σ h x y v u Z inv rx ry pre
  obtain ⟨a, dx, fs, T, rfl, ha, ty, hT, nf, z⟩ := pre
  obtain rfl : v = Value.ref a := rx
  obtain ⟨od, J⟩ := inst_of inv ha
  obtain ⟨m, hF⟩ := inv.fr
  have lk : PySem.W.Looks (model X.prog X.w) st.heap (typeOf u) (.type T) := by
    have ti := ty.is inv ry
    have flat : typeOf u = pure (.type T) → PySem.W.Looks (model X.prog X.w) st.heap (typeOf u) (.type T) := fun e A Q E s' k q => by rw [e]; exact wpAny_pure q
    have far : ∀ b, u = .ref b → PySem.W.Looks (model X.prog X.w) st.heap (typeOf u) (.type T) := by
      intro b e
      subst e
      obtain ⟨o, g1, g2⟩ := ti
      exact fun A Q E s' k q => wpAny_typeOf_ref (k _ _ g1) (by rw [g2]; exact q)
    cases ty with
    | non => cases (show u = Value.none from ry); exact flat ti
    | bl b => cases (show u = Value.bool b from ry); exact flat ti
    | int i => obtain ⟨t, rfl⟩ := (show ∃ t, u = Value.int i t from ry); exact flat ti
    | str x => obtain ⟨t, rfl⟩ := (show ∃ t, u = Value.str x t from ry); exact flat ti
    | byt b => exact absurd rfl hT
    | @lst b => exact far b ry
    | @tup b => exact far b ry
    | @dK b => exact far b ry
  rw [show compareOp .Eq (.ref a) u = richCompare .Eq (.ref a) u from rfl]
  refine PySem.W.cmp_K (op := .Eq) (tb := .type T) room.units0 hF inv.ok.mod.kin J lk nf hs hf ?_
  refine wpAny_mono (run0 (E' := X.xe) (xs := [.ref a, y]) F room inv.env0 bind inv (.cons rfl (.cons ry .nil)) z) (fun w s2 r => ?_) fun _ _ z => z
  obtain ⟨z', h2, inv2, rz, qz⟩ := r
  exact SlX.cmpback rz ⟨z', h2, inv2, rz, qz⟩
/-! ### C(e, ..) with defaults -/
structure CalleeID (P : Program) (w : World) (K : PySem.W.Frag) (mg : Str → Option Value) (base : Heap) (CX : CXT) (k : Nat) (C : Addr) (x : Str) (ps : List Str) (sp : Sp) (dvs : List V) : Prop where
  ex : ∃ (f : Addr) (fd : FuncData) (ds : List Value), FnOk P w K mg base CX k f fd ps sp ∧ Mk K C f ∧ mg x = some (.ref C) ∧ Binds K fd ps ds ∧ Vals dvs ds
theorem pe_makeD {CX : CXT} {k : Nat} {C : Addr} {x : Str} {ps : List Str} {sp : Sp} {dvs : List V} {E : XK} {e : Expr} {es : List Expr} {p pos : Pos} {t : TA} (c : CalleeID X.prog X.w X.K X.mg X.base CX k C x ps sp dvs) (room : Room (k + 1) X.A) (gl : Gl X x) (pass : Passes CX X E) (ha : PA X (e :: es) t)
    (d1 : (x == ("__debug__" : Str)) = false := by decide) (d2 : starEach (e :: es) X.env = (false, eval e X.env) :: starEach es X.env := by rfl) (d3 : (backTo pos (starEach es X.env)).any (·.1) = false := by rfl) :
    PE X (.Call (.Name x p) (e :: es) [] pos) (tMake C sp dvs E t) := by
  obtain ⟨f, fd, ds, F, M, hm, hb, hd⟩ := c.ex
  exact pe_make M F room gl hm hb hd pass ha d1 d2 d3
/-! ### f(k = v, ..) -/
theorem pe_callK0 {CX : CXT} {k : Nat} {x : Str} {ps ks : List Str} {sp : Sp} {gV : List V → List V → List V} {E : XK} {kws : List Keyword} {p pos : Pos} {tk : TA} (c : CalleeKw X.prog X.w X.K X.mg X.base CX k x ps sp 0 ks gV) (room : Room k X.A) (gl : Gl X x) (pass : Passes CX X E) (hkw : PK X kws tk)
    (d1 : (backToKw pos (keywordEach kws X.env)).all (·.1.isSome) = true := by rfl) (d2 : (backToKw pos (keywordEach kws X.env)).filterMap (·.1) = ks := by rfl) (d3 : (x == ("__debug__" : Str)) = false := by decide)
    (d4 : ((backTo pos (starEach [] X.env)).any (·.1) || (backToKw pos (keywordEach kws X.env)).any (·.1.isNone)) = false := by rfl) :
    PE X (.Call (.Name x p) [] kws pos) (fun σ H Q => tk σ H fun zs H2 => zs.length = ks.length ∧ sp (gV [] zs) H2 Q E) := by
  obtain ⟨f, fd, g, F, hm, hk, hb⟩ := c.ex
  refine ⟨fun pins st σ h Z inv pre => wpAny_Call_Name_kw (ld_glob inv gl hm ?_ d3)⟩
  refine PySem.W.callWith_KW0 (first := []) (h₀ := X.base) inv.ok.mod.kin hk d1 (thn (hkw.run pos pins st σ h _ inv pre) fun ws s2 r => ?_) d4
  obtain ⟨zs, h2, inv2, rel, l2, z2⟩ := r
  refine ⟨inv2.kIn, ?_⟩
  rw [d2]
  exact run_fnN (us := []) (vs := []) F room hb pass inv2 .nil rel rfl l2 z2
end
theorem r_callO {σ : L2.St} {H : Hp} {Q : VK} {C : Addr} {sp : Sp} {E : XK} {tf : TE} {t : TA} (q : tf σ H fun x H1 => ∃ (a dx : Addr) (fs : List (Str × V)), x = .ref a ∧ H1 a = some (.ins C dx fs) ∧ t σ H1 fun vs H2 => H2 a = some (.ins C dx fs) ∧ sp (x :: vs) H2 Q E) : tCallO C sp E tf t σ H Q := q
theorem r_chain {σ : L2.St} {H : Hp} {Q : VK} {r r' : R2} {ta tb tc : TE} (q : ta σ H fun x H1 => tb σ H1 fun y H2 => r x y H2 fun z H3 => ∃ k, z = .bl k ∧ if k = true then tc σ H3 fun w' H4 => r' y w' H4 Q else Q (.bl false) H3) : tChain r r' ta tb tc σ H Q := q
end KC
/-! ### own object op number -/
namespace KC
open PySem PySem.Spec PyProof.Rows L2 KB KG KO
section
variable {X : Cx}
structure OwnB (P : Program) (w : World) (K : PySem.W.Frag) (mg : Str → Option Value) (base : Heap) (CX : CXT) (k : Nat) (C : Addr) (op : Operator) (ps : List Str) (sp : Sp) : Prop where
  ex : ∃ (g : Addr) (fd : FuncData) (rc fo ro : Option Value), PySem.W.selfFirst K C = true ∧ PySem.W.findIn K (.ref C) (PySem.dunder op.info.2) = some (some (.ref g)) ∧ PySem.W.isFn K (.ref g) = true ∧ PySem.W.findIn K (.ref C) (dunderR op.info.2) = some rc ∧ (rc = none ∨ ∃ g : Addr, rc = some (.ref g)) ∧
    PySem.W.findIn K (.type "int") (PySem.dunder op.info.2) = some fo ∧ PySem.W.findIn K (.type "int") (dunderR op.info.2) = some ro ∧ PySem.W.subIn K (.type "int") (.ref C) = some false ∧ FnOk P w K mg base CX k g fd ps sp ∧ Binds K fd ps []
def rBinO (C : Addr) (sp : Sp) (E : XK) : R2 := fun x y H Q => ∃ (a dx : Addr) (fs : List (Str × V)) (i : Int), x = .ref a ∧ H a = some (.ins C dx fs) ∧ y = .int i ∧ sp [x, y] H Q E
theorem op_bin {CX : CXT} {E : XK} {C : Addr} {op : Operator} {ps : List Str} {sp : Sp} {n : Nat} (c : OwnB X.prog X.w X.K X.mg X.base CX n C op ps sp) (room : Room n X.A) (pass : Passes CX X E) : OpR X (binaryOp op) (rBinO C sp E) := by
  obtain ⟨g, fd, rc, fo, ro, c1, c2, c3, c4, c5, c6, c7, c8, F, bind⟩ := c.ex
  intro pins st σ h x y v u Z inv rx ry pre
  obtain ⟨a, dx, fs, i, rfl, ha, rfl, z⟩ := pre
  obtain rfl : v = Value.ref a := rx
  obtain ⟨tk, rfl⟩ := (show ∃ t, u = Value.int i t from ry)
  obtain ⟨od, J⟩ := inst_of inv ha
  obtain ⟨m, hF⟩ := inv.fr
  refine PySem.W.ksp_binT (T := "int") hF inv.ok.mod.kin J rfl c1 c2 c3 c4 c5 c6 c7 c8 ?_
  refine wpAny_mono (run_fn (us := [.ref a, .int i tk]) (vs := [.ref a, .int i]) F room bind .nil pass inv (.cons rfl (.cons ⟨tk, rfl⟩ .nil)) z) (fun w s2 r => ?_) fun _ _ z => z
  obtain ⟨z', h2, inv2, rz, qz⟩ := r
  exact SlX.cmpback rz ⟨z', h2, inv2, rz, qz⟩
end
end KC

/-! KBL: blends: the mathematics (natural numbers, bit by bit). -/
namespace KBL
/-- the word moved by s -/
def shN (w v : Nat) (s : Int) : Nat := if s < 0 then v / 2 ^ (0 - s).toNat else v * 2 ^ s.toNat % 2 ^ w
theorem bit_sh {w v : Nat} {s : Int} (hv : v < 2 ^ w) (p : Nat) : (shN w v s).testBit p = (decide (p < w) && (decide (s ≤ (p : Int)) && v.testBit ((p : Int) - s).toNat)) := by
  unfold shN
  by_cases h : s < 0
  · rw [if_pos h, Nat.testBit_div_two_pow, show p + (0 - s).toNat = ((p : Int) - s).toNat by omega, decide_eq_true (show s ≤ (p : Int) by omega), Bool.true_and]
    by_cases hp : p < w
    · rw [decide_eq_true hp, Bool.true_and]
    · rw [decide_eq_false hp, Bool.false_and]
      exact Nat.testBit_lt_two_pow (Nat.lt_of_lt_of_le hv (Nat.pow_le_pow_right (by decide) (by omega)))
  · rw [if_neg h, Nat.testBit_mod_two_pow, Nat.testBit_mul_two_pow]
    by_cases hs : s ≤ (p : Int)
    · rw [decide_eq_true (show s.toNat ≤ p by omega), decide_eq_true hs, show p - s.toNat = ((p : Int) - s).toNat by omega]
    · rw [decide_eq_false (show ¬ s.toNat ≤ p by omega), decide_eq_false hs]
      simp
theorem sh_lt {w v : Nat} {s : Int} (hv : v < 2 ^ w) : shN w v s < 2 ^ w := by
  unfold shN
  split
  · exact Nat.lt_of_le_of_lt (Nat.div_le_self _ _) hv
  · exact Nat.mod_lt _ (Nat.two_pow_pos w)
def onesN (w : Nat) : Nat := 2 ^ w - 1
theorem ones_lt (w : Nat) : onesN w < 2 ^ w := by
  have := Nat.two_pow_pos w
  unfold onesN
  omega
def keepN (w : Nat) (s : Int) (k : Nat) : Nat := shN w (onesN w) s &&& k
def shiftN (w : Nat) (s : Int) (k : Nat) : Int := if keepN w s k = 0 then 0 else s
/-- the place p has a source -/
def src (w : Nat) (s : Int) (k p : Nat) : Bool := decide (p < w) && (decide (s ≤ (p : Int)) && (decide ((p : Int) - s < w) && k.testBit p))
theorem bit_keep (w : Nat) (s : Int) (k p : Nat) : (keepN w s k).testBit p = src w s k p := by
  unfold keepN src
  rw [Nat.testBit_and, bit_sh (ones_lt w)]
  unfold onesN
  rw [Nat.testBit_two_pow_sub_one]
  by_cases h : s ≤ (p : Int)
  · rw [decide_eq_true h, show decide (((p : Int) - s).toNat < w) = decide ((p : Int) - s < w) from by
      by_cases q : (p : Int) - s < w
      · rw [decide_eq_true q, decide_eq_true (by omega)]
      · rw [decide_eq_false q, decide_eq_false (by omega)]]
    simp only [Bool.true_and, Bool.and_assoc]
  · rw [decide_eq_false h]
    simp
theorem keep_lt (w : Nat) (s : Int) (k : Nat) : keepN w s k < 2 ^ w := by
  unfold keepN
  rw [Nat.and_comm]
  exact Nat.and_lt_two_pow _ (sh_lt (ones_lt w))
/-- what a blend makes of a word -/
def ap (w : Nat) (s : Int) (k f v : Nat) : Nat := f ^^^ (keepN w s k &&& shN w v s)
theorem ap_lt {w : Nat} {s : Int} {k f v : Nat} (hf : f < 2 ^ w) (hv : v < 2 ^ w) : ap w s k f v < 2 ^ w := Nat.xor_lt_two_pow hf (Nat.and_lt_two_pow _ (sh_lt hv))
theorem bit_ap {w : Nat} {s : Int} {k f v : Nat} (hv : v < 2 ^ w) (p : Nat) : (ap w s k f v).testBit p = (f.testBit p ^^ (src w s k p && v.testBit ((p : Int) - s).toNat)) := by
  unfold ap
  rw [Nat.testBit_xor, Nat.testBit_and, bit_keep, bit_sh hv]
  unfold src
  by_cases h1 : p < w <;> by_cases h2 : s ≤ (p : Int) <;> by_cases h3 : (p : Int) - s < w <;> simp [h1, h2, h3]
/-- the same by the numbers that are kept -/
theorem ap_norm (w : Nat) (s : Int) (k f v : Nat) : f ^^^ (keepN w s k &&& shN w v (shiftN w s k)) = ap w s k f v := by
  unfold ap shiftN
  by_cases h : keepN w s k = 0
  · rw [if_pos h, h, Nat.zero_and, Nat.zero_and]
  · rw [if_neg h]
theorem ap_zero (w : Nat) (s : Int) (k f : Nat) : ap w s k f 0 = f := by
  refine Nat.eq_of_testBit_eq fun p => ?_
  rw [bit_ap (Nat.two_pow_pos w), Nat.zero_testBit, Bool.and_false, Bool.xor_false]
theorem two_lt {j w : Nat} (h : j < w) : 2 ^ j < 2 ^ w := Nat.pow_lt_pow_right (by decide) h
theorem bit_two {w : Nat} {s : Int} {k f j : Nat} (h : j < w) (p : Nat) : (ap w s k f (2 ^ j)).testBit p = (f.testBit p ^^ (src w s k p && decide ((p : Int) - s = j))) := by
  rw [bit_ap (two_lt h), Nat.testBit_two_pow]
  unfold src
  by_cases h2 : s ≤ (p : Int)
  · have e : decide (j = ((p : Int) - s).toNat) = decide ((p : Int) - s = j) := by
      by_cases q : (p : Int) - s = j
      · rw [decide_eq_true q, decide_eq_true (by omega)]
      · rw [decide_eq_false q, decide_eq_false (by omega)]
    rw [e]
  · simp [h2]
theorem src_of {w : Nat} {s : Int} {k p : Nat} (h : src w s k p = true) : p < w ∧ s ≤ (p : Int) ∧ (p : Int) - s < w := by
  unfold src at h
  simp only [Bool.and_eq_true, decide_eq_true_eq] at h
  exact ⟨h.1, h.2.1, h.2.2.1⟩
/-- where two agree at the single bits below n, a source of the one is that of the other -/
theorem src_same {w n : Nat} {s s' : Int} {k k' f f' : Nat} (hf : f = f') (h : ∀ j, j < n → ap w s k f (2 ^ j) = ap w s' k' f' (2 ^ j)) (hn : n ≤ w) {p : Nat} (hp : src w s k p = true) (hj : (p : Int) - s < n) : src w s' k' p = true ∧ (p : Int) - s' = (p : Int) - s := by
  obtain ⟨h1, h2, h3⟩ := src_of hp
  obtain ⟨j, ej⟩ : ∃ j : Nat, (p : Int) - s = j := ⟨((p : Int) - s).toNat, by omega⟩
  have hjn : j < n := by omega
  have e := congrArg (fun x => Nat.testBit x p) (h j hjn)
  simp only [bit_two (show j < w by omega), hp, hf] at e
  rw [decide_eq_true ej] at e
  cases hq : src w s' k' p with
  | false => rw [hq] at e; simp at e
  | true =>
    rw [hq] at e
    by_cases z : (p : Int) - s' = j
    · exact ⟨rfl, by omega⟩
    · rw [decide_eq_false z] at e
      simp at e
theorem bits_below {v n i : Nat} (hv : v < 2 ^ n) (h : v.testBit i = true) : i < n := by
  rcases Nat.lt_or_ge i n with z | z
  · exact z
  · rw [Nat.testBit_lt_two_pow (Nat.lt_of_lt_of_le hv (Nat.pow_le_pow_right (by decide) z))] at h
    cases h
/-- .. then they agree at all words below 2 ^ n -/
theorem agree {w n : Nat} {s s' : Int} {k k' f f' : Nat} (hf : f = f') (h : ∀ j, j < n → ap w s k f (2 ^ j) = ap w s' k' f' (2 ^ j)) (hn : n ≤ w) {v : Nat} (hv : v < 2 ^ n) : ap w s k f v = ap w s' k' f' v := by
  have hvw : v < 2 ^ w := Nat.lt_of_lt_of_le hv (Nat.pow_le_pow_right (by decide) hn)
  have one : ∀ {s s' : Int} {k k' f f' : Nat}, f = f' → (∀ j, j < n → ap w s k f (2 ^ j) = ap w s' k' f' (2 ^ j)) → ∀ p, (src w s k p && v.testBit ((p : Int) - s).toNat) = true → (src w s' k' p && v.testBit ((p : Int) - s').toNat) = true := by
    intro s s' k k' f f' hf h p hp
    obtain ⟨h1, h2⟩ := Bool.and_eq_true_iff.mp hp
    have h3 := bits_below hv h2
    obtain ⟨g1, g2⟩ := src_same hf h hn h1 (by have := (src_of h1).2.1; omega)
    rw [g1, g2, h2]
    rfl
  refine Nat.eq_of_testBit_eq fun p => ?_
  rw [bit_ap hvw, bit_ap hvw, hf]
  congr 1
  cases e : (src w s k p && v.testBit ((p : Int) - s).toNat) with
  | true => exact (one hf h p e).symm
  | false =>
    cases e' : (src w s' k' p && v.testBit ((p : Int) - s').toNat) with
    | false => rfl
    | true =>
      have := one hf.symm (fun j hj => (h j hj).symm) p e'
      rw [e] at this
      cases this
/-- equal at 0 and at the single bits: the numbers are equal -/
theorem norm_eq {w : Nat} {s s' : Int} {k k' f f' : Nat} (hf : f = f') (h : ∀ j, j < w → ap w s k f (2 ^ j) = ap w s' k' f' (2 ^ j)) : keepN w s k = keepN w s' k' ∧ shiftN w s k = shiftN w s' k' := by
  have up : ∀ {p}, src w s k p = true → src w s' k' p = true ∧ (p : Int) - s' = (p : Int) - s := fun {p} hp => src_same hf h (Nat.le_refl _) hp (src_of hp).2.2
  have dn : ∀ {p}, src w s' k' p = true → src w s k p = true ∧ (p : Int) - s = (p : Int) - s' := fun {p} hp => src_same hf.symm (fun j hj => (h j hj).symm) (Nat.le_refl _) hp (src_of hp).2.2
  have ek : keepN w s k = keepN w s' k' := by
    refine Nat.eq_of_testBit_eq fun p => ?_
    rw [bit_keep, bit_keep]
    cases e : src w s k p with
    | true => exact (up e).1.symm
    | false =>
      cases e' : src w s' k' p with
      | false => rfl
      | true => have := (dn e').1; rw [e] at this; cases this
  refine ⟨ek, ?_⟩
  unfold shiftN
  rw [← ek]
  by_cases z : keepN w s k = 0
  · rw [if_pos z, if_pos z]
  · rw [if_neg z, if_neg z]
    have : ∃ p, (keepN w s k).testBit p = true := by
      rcases Classical.em (∃ p, (keepN w s k).testBit p = true) with g | g
      · exact g
      · refine absurd (Nat.eq_of_testBit_eq fun p => ?_) z
        rw [Nat.zero_testBit]
        cases e : (keepN w s k).testBit p with
        | false => rfl
        | true => exact absurd ⟨p, e⟩ g
    obtain ⟨p, hp⟩ := this
    rw [bit_keep] at hp
    have := (up hp).2
    omega
theorem norm_ap {w : Nat} {s s' : Int} {k k' f f' : Nat} (hk : keepN w s k = keepN w s' k') (hs : shiftN w s k = shiftN w s' k') (hf : f = f') (v : Nat) : ap w s k f v = ap w s' k' f' v := by
  rw [← ap_norm w s k f v, ← ap_norm w s' k' f' v, hk, hs, hf]
/-! ### where two part -/
def parts (F G : Nat → Nat) (v : Nat) : Bool := decide (F v ≠ G v)
def bits (w : Nat) : List Nat := (List.range w).map (2 ^ ·)
/-- the least word of 0 and the single bits at which F and G part -/
def parting (w : Nat) (F G : Nat → Nat) : Option Nat := (0 :: bits w).find? (parts F G)
theorem parting_none {w : Nat} {F G : Nat → Nat} : parting w F G = none ↔ F 0 = G 0 ∧ ∀ j, j < w → F (2 ^ j) = G (2 ^ j) := by
  unfold parting bits parts
  rw [List.find?_eq_none]
  constructor
  · intro h
    refine ⟨?_, fun j hj => ?_⟩
    · have := h 0 (List.mem_cons_self ..)
      simpa using this
    · have := h (2 ^ j) (List.mem_cons_of_mem _ (List.mem_map.mpr ⟨j, List.mem_range.mpr hj, rfl⟩))
      simpa using this
  · rintro ⟨h0, h⟩ x hx
    rcases List.mem_cons.mp hx with rfl | hx
    · simp [h0]
    · obtain ⟨j, hj, rfl⟩ := List.mem_map.mp hx
      simp [h j (List.mem_range.mp hj)]
theorem find_range {q : Nat → Bool} : ∀ (n : Nat) (m : Nat), m < n → q m = true → (∀ i, i < m → q i = false) → (List.range n).find? q = some m := by
  intro n m hm h1 h2
  induction n with
  | zero => omega
  | succ n ih =>
    rw [List.range_succ, List.find?_append]
    by_cases e : m < n
    · rw [ih e]
      rfl
    · have e' : m = n := by omega
      subst e'
      have no : (List.range m).find? q = none := by
        rw [List.find?_eq_none]
        intro x hx
        rw [h2 x (List.mem_range.mp hx)]
        decide
      rw [no]
      simp [List.find?, h1]
theorem parting_some {w : Nat} {F G : Nat → Nat} {d : Nat} (h : parting w F G = some d) : F d ≠ G d ∧ (d = 0 ∨ ∃ j, j < w ∧ d = 2 ^ j ∧ F 0 = G 0 ∧ ∀ i, i < j → F (2 ^ i) = G (2 ^ i)) := by
  have hp : parts F G d = true := List.find?_some h
  refine ⟨by simpa [parts] using hp, ?_⟩
  unfold parting at h
  rw [List.find?_cons] at h
  cases e : parts F G 0 with
  | true => rw [e] at h; exact .inl (Option.some.inj h).symm
  | false =>
    rw [e] at h
    have h0 : F 0 = G 0 := by simpa [parts] using e
    have h' : (bits w).find? (parts F G) = some d := h
    unfold bits at h'
    rw [List.find?_map] at h'
    cases e2 : (List.range w).find? (parts F G ∘ fun x => 2 ^ x) with
    | none => rw [e2] at h'; cases h'
    | some j =>
      rw [e2] at h'
      have hd : 2 ^ j = d := Option.some.inj h'
      obtain ⟨as, bs, e3, e4⟩ := List.find?_eq_some_iff_append.mp e2 |>.2
      refine .inr ⟨j, List.mem_range.mp (List.mem_of_find?_eq_some e2), hd.symm, h0, fun i hi => ?_⟩
      have : i ∈ as := by
        have hl : as.length = j := by
          have := congrArg (fun l => l[as.length]?) e3
          simp at this
          have h5 : as.length < w := by
            have := congrArg List.length e3
            simp at this
            omega
          simp [h5] at this
          exact this
        have hi2 : i < as.length := by omega
        have q := congrArg (fun l => l[i]?) e3
        have hiw : i < w := by
          have := congrArg List.length e3
          simp at this
          omega
        rw [show (as ++ j :: bs)[i]? = as[i]? from List.getElem?_append_left hi2, List.getElem?_range hiw] at q
        exact List.mem_of_getElem? q.symm
      have := e4 i this
      simpa [parts] using this
/-- two blends: all words below the parting word agree -/
theorem below {w : Nat} {s s' : Int} {k k' f f' d v : Nat} (h : parting w (ap w s k f) (ap w s' k' f') = some d) (hv : v < d) : ap w s k f v = ap w s' k' f' v := by
  rcases (parting_some h).2 with rfl | ⟨j, hj, rfl, h0, h1⟩
  · omega
  · rw [ap_zero, ap_zero] at h0
    exact agree h0 h1 (Nat.le_of_lt hj) hv
/-- found among all words -/
theorem parting_all {w : Nat} {s s' : Int} {k k' f f' : Nat} : (List.range (2 ^ w)).find? (parts (ap w s k f) (ap w s' k' f')) = parting w (ap w s k f) (ap w s' k' f') := by
  cases e : parting w (ap w s k f) (ap w s' k' f') with
  | none =>
    obtain ⟨h0, h1⟩ := parting_none.mp e
    rw [ap_zero, ap_zero] at h0
    rw [List.find?_eq_none]
    intro x hx
    simp [parts, agree h0 h1 (Nat.le_refl w) (List.mem_range.mp hx)]
  | some d =>
    have hd := parting_some e
    have dl : d < 2 ^ w := by
      rcases hd.2 with rfl | ⟨j, hj, rfl, _⟩
      · exact Nat.two_pow_pos w
      · exact two_lt hj
    refine find_range _ d dl (by simpa [parts] using hd.1) fun i hi => ?_
    simp [parts, below e hi]
/-- the numbers are equal just where there is no such word -/
theorem same_iff {w : Nat} {s s' : Int} {k k' f f' : Nat} : parting w (ap w s k f) (ap w s' k' f') = none ↔ (shiftN w s k = shiftN w s' k' ∧ keepN w s k = keepN w s' k' ∧ f = f') := by
  rw [parting_none, ap_zero, ap_zero]
  constructor
  · rintro ⟨h0, h1⟩
    obtain ⟨g1, g2⟩ := norm_eq h0 h1
    exact ⟨g2, g1, h0⟩
  · rintro ⟨h1, h2, h3⟩
    exact ⟨h3, fun j _ => norm_ap h2 h1 h3 _⟩
end KBL
/-! ### numbers of the model -/
namespace KBL
open PySem
theorem bAnd (a b : Nat) : Builtin.bitAnd (a : Int) (b : Int) = ((a &&& b : Nat) : Int) := by
  rw [PyProof.Rows.bitAnd_pp (by omega) (by omega)]
  rfl
theorem xor_and_add (a : Nat) : ∀ b : Nat, (a ^^^ b) + 2 * (a &&& b) = a + b := by
  induction a using Nat.strongRecOn with
  | _ a ih =>
    intro b
    by_cases h : a = 0
    · subst h; simp
    · have e := ih (a / 2) (by omega) (b / 2)
      have x1 := Nat.xor_mod_two_pow (a := a) (b := b) (n := 1)
      have x2 := Nat.and_mod_two_pow (a := a) (b := b) (n := 1)
      have x3 := Nat.xor_div_two_pow (a := a) (b := b) (n := 1)
      have x4 := Nat.and_div_two_pow (a := a) (b := b) (n := 1)
      simp only [Nat.pow_one] at x1 x2 x3 x4
      have da := Nat.div_add_mod a 2
      have db := Nat.div_add_mod b 2
      have dx := Nat.div_add_mod (a ^^^ b) 2
      have dy := Nat.div_add_mod (a &&& b) 2
      rw [x1, x3] at dx
      rw [x2, x4] at dy
      rcases Nat.mod_two_eq_zero_or_one a with ha | ha <;> rcases Nat.mod_two_eq_zero_or_one b with hb | hb <;> rw [ha, hb] at dx dy <;> rw [ha] at da <;> rw [hb] at db <;> simp at dx dy <;> omega
theorem bXor (a b : Nat) : Builtin.bitXor (a : Int) (b : Int) = ((a ^^^ b : Nat) : Int) := by
  rw [PyProof.Rows.bitXor_and, bAnd]
  have := xor_and_add a b
  omega
theorem ofShr (v : Nat) (j : Int) : (v : Int) / 2 ^ j.toNat = ((v / 2 ^ j.toNat : Nat) : Int) := by
  rw [Int.natCast_ediv, Int.natCast_pow]
  rfl
theorem ofShl (v : Nat) (j : Int) : (v : Int) * 2 ^ j.toNat = ((v * 2 ^ j.toNat : Nat) : Int) := by
  rw [Int.natCast_mul, Int.natCast_pow]
  rfl
theorem shl_and (w v : Nat) (j : Int) : Builtin.bitAnd ((v : Int) * 2 ^ j.toNat) ((onesN w : Nat) : Int) = ((v * 2 ^ j.toNat % 2 ^ w : Nat) : Int) := by
  rw [ofShl, bAnd]
  unfold onesN
  rw [Nat.and_two_pow_sub_one_eq_mod]
end KBL
/-! ### texts of numbers -/
namespace KBL
open PySem
def dg (i : Int) : List Nat := (Str.ofString (toString i)).cps.toList
theorem dg_is (i : Int) : dg i = (toString i).toList.map Char.toNat := PyProof.Rows.signs_ofString _
theorem map_char : ∀ {a b : List Char}, a.map Char.toNat = b.map Char.toNat → a = b
  | [], [], _ => rfl
  | [], _ :: _, h => by cases h
  | _ :: _, [], h => by cases h
  | x :: a, y :: b, h => by
    rw [List.map_cons, List.map_cons] at h
    injection h with h1 h2
    have e : x = y := Char.toNat_inj.mp h1
    rw [e, map_char h2]
theorem dg_inj {i j : Int} (h : dg i = dg j) : i = j := by
  rw [dg_is, dg_is] at h
  have e := map_char h
  rw [String.toList_inj] at e
  rw [Int.toString_eq_repr, Int.toString_eq_repr] at e
  exact Int.repr_inj.mp e
theorem nat_no (n : Nat) : ∀ c ∈ (Nat.repr n).toList, c.toNat ≠ 44 := by
  intro c hc
  rw [Nat.toList_repr] at hc
  have h := Nat.isDigit_of_mem_toDigits (by decide) (by decide) hc
  simp only [Char.isDigit, Bool.and_eq_true, decide_eq_true_eq] at h
  have h2 : 48 ≤ c.val.toNat := by simpa using UInt32.le_iff_toNat_le.mp h.1
  have e : c.val.toNat = c.toNat := rfl
  omega
theorem dg_no (i : Int) : 44 ∉ dg i := by
  rw [dg_is]
  intro hc
  obtain ⟨c, hc, e⟩ := List.mem_map.mp hc
  rw [Int.toString_eq_repr, Int.repr_eq_if] at hc
  split at hc
  · exact nat_no _ c hc e
  · rw [String.toList_append, List.mem_append] at hc
    rcases hc with hc | hc
    · have : c = '-' := by simpa using hc
      subst this
      exact absurd e (by decide)
    · exact nat_no _ c hc e
theorem cut44 : ∀ {a b x y : List Nat}, 44 ∉ a → 44 ∉ b → a ++ 44 :: x = b ++ 44 :: y → a = b ∧ x = y
  | [], [], _, _, _, _, h => by
    injection h with _ h
    exact ⟨rfl, h⟩
  | [], c :: b, _, _, _, hb, h => by
    injection h with h1 _
    exact absurd (by rw [← h1]; exact List.mem_cons_self ..) hb
  | c :: a, [], _, _, ha, _, h => by
    injection h with h1 _
    exact absurd (by rw [h1]; exact List.mem_cons_self ..) ha
  | c :: a, d :: b, x, y, ha, hb, h => by
    injection h with h1 h2
    obtain ⟨g1, g2⟩ := cut44 (fun z => ha (List.mem_cons_of_mem _ z)) (fun z => hb (List.mem_cons_of_mem _ z)) h2
    exact ⟨by rw [h1, g1], g2⟩
def bText (w s k f : Int) : Str := Str.empty ++ "Blend(" ++ toString w ++ ", " ++ toString s ++ ", " ++ toString k ++ ", " ++ toString f ++ ")"
theorem bText_list (w s k f : Int) : (bText w s k f).cps.toList = [66, 108, 101, 110, 100, 40] ++ (dg w ++ 44 :: (32 :: dg s ++ 44 :: (32 :: dg k ++ 44 :: (32 :: dg f ++ [41])))) := by
  unfold bText dg
  simp only [Str.cps_append, Array.toList_append, List.append_assoc]
  rfl
theorem no32 {l : List Nat} (h : 44 ∉ l) : 44 ∉ (32 :: l) := fun z => (List.mem_cons.mp z).elim (fun e => by cases e) h
theorem bText_inj {w s k f w' s' k' f' : Int} (h : bText w s k f = bText w' s' k' f') : w = w' ∧ s = s' ∧ k = k' ∧ f = f' := by
  have e := congrArg (fun x : Str => x.cps.toList) h
  simp only [bText_list] at e
  have e := List.append_cancel_left e
  obtain ⟨e1, e⟩ := cut44 (dg_no w) (dg_no w') e
  obtain ⟨e2, e⟩ := cut44 (a := 32 :: dg s) (b := 32 :: dg s') (no32 (dg_no s)) (no32 (dg_no s')) e
  obtain ⟨e3, e⟩ := cut44 (a := 32 :: dg k) (b := 32 :: dg k') (no32 (dg_no k)) (no32 (dg_no k')) e
  have e4 := List.append_cancel_right e
  injection e2 with _ e2
  injection e3 with _ e3
  injection e4 with _ e4
  exact ⟨dg_inj e1, dg_inj e2, dg_inj e3, dg_inj e4⟩
theorem num_len {i : Int} (h : i.natAbs.log2 < 1920) : (Str.ofString (toString i)).length ≤ 1921 := PyProof.Rows.int_text_len_1921 h
end KBL
namespace KBL
open PySem
def b2n (b : Bool) : Nat := if b then 1 else 0
theorem bit_one (n p : Nat) : Builtin.bitAnd ((n : Int) / 2 ^ p) 1 = ((b2n (n.testBit p) : Nat) : Int) := by
  rw [show ((n : Int) / 2 ^ p) = ((n / 2 ^ p : Nat) : Int) by rw [Int.natCast_ediv, Int.natCast_pow]; rfl]
  rw [show (1 : Int) = ((1 : Nat) : Int) from rfl, bAnd, Nat.and_one_is_mod, Nat.testBit_eq_decide_div_mod_eq]
  unfold b2n
  have := Nat.mod_two_eq_zero_or_one (n / 2 ^ p)
  rcases this with h | h <;> rw [h] <;> rfl
theorem b2n_one (b : Bool) : (((b2n b : Nat) : Int) = 1) ↔ b = true := by
  cases b <;> decide
theorem b2n_xor (a b : Bool) : Builtin.bitXor ((b2n a : Nat) : Int) ((b2n b : Nat) : Int) = ((b2n (a ^^ b) : Nat) : Int) := by
  rw [bXor]
  cases a <;> cases b <;> rfl
theorem mod_next (x i : Nat) : x % 2 ^ (i + 1) = x % 2 ^ i + b2n (x.testBit i) * 2 ^ i := by
  rw [Nat.mod_pow_succ, Nat.testBit_eq_decide_div_mod_eq]
  unfold b2n
  have := Nat.mod_two_eq_zero_or_one (x / 2 ^ i)
  rcases this with h | h <;> rw [h] <;> simp
end KBL

/-! KD: comprehensions whose elements are made. -/
namespace KD
open PySem PySem.Spec PyProof.Rows L2 KB KG KO
/-- all but lists is kept -/
def SameN (H H' : Hp) : Prop := ∀ a o, H a = some o → (∀ xs, o ≠ .lst xs) → H' a = some o
theorem SameN.of {H H' : Hp} (s : Same H H') : SameN H H' := fun a o e _ => s a o e
theorem SameN.trans {H H' H2 : Hp} (s : SameN H H') (t : SameN H' H2) : SameN H H2 := fun a o e n => t a o (s a o e n) n
theorem SameN.tup {H H' : Hp} {a : Addr} {xs : List V} (s : SameN H H') (h : H a = some (.tup xs)) : H' a = some (.tup xs) := s a _ h (fun _ z => by cases z)
theorem SameN.ins {H H' : Hp} {a C dx : Addr} {fs : List (Str × V)} (s : SameN H H') (h : H a = some (.ins C dx fs)) : H' a = some (.ins C dx fs) := s a _ h (fun _ z => by cases z)
/-- a comprehension without a test; R i v H: what the i-th element is -/
theorem lc_made {J : It} {n : Nat} {G : Hp → Prop} {Y : Nat → Hp → V → Hp → Prop} (wk : Walk J n G Y) {g : TG} {tt : TT} {te : TE} {vs : List Nat} {σ : L2.St} {H1 : Hp} {Q : VK} (R : Nat → V → Hp → Prop) (hn : n ≤ 10000)
    (up : ∀ i v H H', R i v H → SameN H H' → R i v H') (hG : ∀ H', Same H1 H' → G H')
    (hs : ∀ i x H H' (N : V → Hp → Prop) (B : Hp → Prop), i < n → Same H1 H → Y i H x H' → (∀ v H2, Same H H2 → R i v H2 → N v H2) → g x (wipe σ vs) H' fun σ2 H2 => wipe σ2 vs = wipe σ vs ∧ tt σ2 H2 fun b H3 => if b = true then te σ2 H3 N else B H3)
    (hd : ∀ D H' (ys : List V), H1 D = none → Same H1 H' → H' D = some (.lst ys) → ys.length = n → (∀ i v, ys[i]? = some v → R i v H') → Q (.ref D) H') :
    LcW J g tt te vs σ H1 Q := by
  intro D hD
  refine lc_it wk (Qd := fun H => Q (.ref D) H) (fun i H => Same H1 H ∧ ∃ ys : List V, H D = some (.lst ys) ∧ ys.length = i ∧ ∀ j v, ys[j]? = some v → R j v H) ⟨same_new hD, [], upd_same, rfl, fun j v e => by simp at e⟩ (fun i H _ p => hG H p.1) (fun i x H H' hi p y => ?_) (fun H p => ?_)
  · obtain ⟨sm, ys, hy, hl, hR⟩ := p
    refine hs i x H H' _ _ hi sm y (fun v H2 s2 r => ?_)
    have kp : ∀ zs, SameN H2 (upd H2 D (.lst zs)) := fun zs a o e no => by
      rw [upd_ne (fun z => no ys (by rw [z, s2 _ _ hy] at e; exact (Option.some.inj e).symm))]
      exact e
    refine ⟨ys, s2 _ _ hy, small1000' (by omega), same_mut (sm.trans s2) hD, ys ++ [v], upd_same, by simp [hl], fun j w e => ?_⟩
    by_cases hj : j < ys.length
    · rw [List.getElem?_append_left hj] at e
      exact up _ _ _ _ (hR j w e) ((SameN.of s2).trans (kp _))
    · rw [List.getElem?_append_right (by omega)] at e
      have h0 : j - ys.length = 0 := by
        cases z : j - ys.length with
        | zero => rfl
        | succ m => rw [z] at e; simp at e
      rw [h0] at e
      have ew : v = w := Option.some.inj e
      subst ew
      have ej : j = i := by omega
      subst ej
      exact up _ _ _ _ r (kp _)
  · obtain ⟨sm, ys, hy, hl, hR⟩ := p
    exact hd D H ys hD sm hy hl hR
/-- a comprehension whose test is never true -/
theorem lc_none {J : It} {n : Nat} {G : Hp → Prop} {Y : Nat → Hp → V → Hp → Prop} (wk : Walk J n G Y) {g : TG} {tt : TT} {te : TE} {vs : List Nat} {σ : L2.St} {H1 : Hp} {Q : VK}
    (hG : ∀ H', Same H1 H' → G H')
    (hs : ∀ i x H H' (B : Hp → Prop) (N : V → Hp → Prop), i < n → Same H1 H → Y i H x H' → (∀ H2, Same H H2 → B H2) → g x (wipe σ vs) H' fun σ2 H2 => wipe σ2 vs = wipe σ vs ∧ tt σ2 H2 fun b H3 => if b = true then te σ2 H3 N else B H3)
    (hd : ∀ D H', H1 D = none → Same H1 H' → H' D = some (.lst []) → Q (.ref D) H') :
    LcW J g tt te vs σ H1 Q := by
  intro D hD
  refine lc_it wk (Qd := fun H => Q (.ref D) H) (fun i H => Same H1 H ∧ H D = some (.lst [])) ⟨same_new hD, upd_same⟩ (fun i H _ p => hG H p.1) (fun i x H H' hi p y => ?_) (fun H p => hd D H hD p.1 p.2)
  exact hs i x H H' _ _ hi p.1 y (fun H2 s2 => ⟨p.1.trans s2, s2 _ _ p.2⟩)
theorem r_yes {σ : L2.St} {H : Hp} {QT : Bool → Hp → Prop} (q : QT true H) : tYes σ H QT := q
/-! ### what repr shows -/
open KY
theorem fit_int {tag : Str} (ht : (reprText tag).length ≤ 100) {i : Int} (h : i.natAbs.log2 < 1920) : Fit tag (.sc (.int i)) := by
  have l := KBL.num_len h
  have sl2 : 10000 ≤ sizeLine := by decide
  refine ⟨?_, ?_, ?_⟩
  · simp only [Dt.d, Sc.d, PyData.showable]
    exact decide_eq_true h
  · simp [KY.pairD, PyData.depth, PyData.depthAll, Dt.d, Sc.d]
  · simp only [KY.pairD, PyData.shown, PyData.shownAll, Dt.d, Sc.d, listText, textFrom, Str.length_append]
    have c1 : (Str.ofString "[").length = 1 := by decide +kernel
    have c2 : (Str.ofString "]").length = 1 := by decide +kernel
    have c3 : (Str.ofString (if 0 > 0 then ", " else "")).length = 0 := by decide +kernel
    have c4 : (Str.ofString (if 0 + 1 > 0 then ", " else "")).length = 2 := by decide +kernel
    omega
def fitB (tag : Str) (t : Dt) : Bool := PyData.showable t.d && decide ((KY.pairD tag t).depth ≤ 60) && decide ((KY.pairD tag t).shown.length ≤ 1000)
theorem fit_of {tag : Str} {t : Dt} (h : fitB tag t = true) : Fit tag t := by
  unfold fitB at h
  simp only [Bool.and_eq_true, decide_eq_true_eq] at h
  exact ⟨h.1.1, h.1.2, Nat.le_trans h.2 (by decide)⟩
theorem strOk_of (s : String) : PyData.strOk (Str.ofString s) = true := by
  unfold PyData.strOk
  rw [Str.ofString_eq_toList]
  rw [List.all_toArray, List.all_eq_true]
  intro x hx
  obtain ⟨c, _, rfl⟩ := List.mem_map.mp hx
  have h := c.valid
  have e : c.toNat = c.val.toNat := rfl
  refine decide_eq_true ?_
  rw [e]
  rcases h with h | h
  · have : c.val.toNat < 0xd800 := h
    omega
  · have : c.val.toNat < 0x110000 := h.2
    omega
theorem strOk_app (a b : Str) : PyData.strOk (a ++ b) = (PyData.strOk a && PyData.strOk b) := by
  unfold PyData.strOk
  show (a.cps ++ b.cps).all _ = _
  rw [Array.all_append]
theorem ok_intText {tag : Str} (ht : PyData.strOk (reprText tag) = true) (i : Int) : PyData.strOk (KY.pairD tag (.sc (.int i))).shown = true := by
  simp only [KY.pairD, PyData.shown, PyData.shownAll, Dt.d, Sc.d, listText, textFrom, strOk_app, strOk_of, ht, Bool.and_self]
/-! ### f(k = v, ..), its reading named -/
section
variable {X : Cx}
def tCK (ks : List Str) (sp : Sp) (gV : List V → List V → List V) (E : XK) (tk : TA) : TE := fun σ H Q => tk σ H fun zs H2 => zs.length = ks.length ∧ sp (gV [] zs) H2 Q E
theorem pe_callK {CX : CXT} {k : Nat} {x : Str} {ps ks : List Str} {sp : Sp} {gV : List V → List V → List V} {E : XK} {kws : List Keyword} {p pos : Pos} {tk : TA} (c : CalleeKw X.prog X.w X.K X.mg X.base CX k x ps sp 0 ks gV) (room : Room k X.A) (gl : Gl X x) (pass : Passes CX X E) (hkw : PK X kws tk)
    (d1 : (backToKw pos (keywordEach kws X.env)).all (·.1.isSome) = true := by rfl) (d2 : (backToKw pos (keywordEach kws X.env)).filterMap (·.1) = ks := by rfl) (d3 : (x == ("__debug__" : Str)) = false := by decide)
    (d4 : ((backTo pos (starEach [] X.env)).any (·.1) || (backToKw pos (keywordEach kws X.env)).any (·.1.isNone)) = false := by rfl) :
    PE X (.Call (.Name x p) [] kws pos) (tCK ks sp gV E tk) := KC.pe_callK0 c room gl pass hkw d1 d2 d3 d4
theorem r_ck {σ : L2.St} {H : Hp} {Q : VK} {ks : List Str} {sp : Sp} {gV : List V → List V → List V} {E : XK} {tk : TA} (q : tk σ H fun zs H2 => zs.length = ks.length ∧ sp (gV [] zs) H2 Q E) : tCK ks sp gV E tk σ H Q := q
end
end KD

/-! KR: own object beside data of any type under &, |, ^, <<, >>, on either side. -/
namespace KR
open PySem PySem.Spec PyProof.Rows L2 KB KG KO KY
section
variable {prog : Program} {w : World} {A : Around} {E : Value → Shared → Prop} {s : Shared} {K : PySem.W.Frag} {x C L g g2 : Addr} {hb : Heap} {m : Str → Option Value} {ox : Obj} {od : Option Obj} {T : String}
open PySem.W in
/-- o op v -/
theorem bin_left {op : Operator} {v : Value} {fo ro rc : Option Value} {Z : Value → Shared → Prop} (F : Fr hb L s.heap m) (X0 : K.In hb) (I : InstAt s.heap x ox C od) (lv : Looks (model prog w) s.heap (typeOf v) (.type T)) (c1 : selfFirst K C = true)
    (c2 : findIn K (.ref C) (PySem.dunder op.info.2) = some (some (.ref g))) (c3 : isFn K (.ref g) = true) (c4 : findIn K (.ref C) (dunderR op.info.2) = some rc) (c5 : rc = none ∨ ∃ z : Addr, rc = some (.ref z))
    (c6 : findIn K (.type T) (PySem.dunder op.info.2) = some fo) (c7 : findIn K (.type T) (dunderR op.info.2) = some ro) (c8 : subIn K (.type T) (.ref C) = some false)
    (go : wpAny (model prog w) A (call (.ref g) [.ref x, v]) (PySem.W.CmpBack Z) E s) : wpAny (model prog w) A (binaryOp op (.ref x) v) Z E s := by
  have XK := X0.keeps F.keep
  obtain ⟨cd, rest, hcd, hmro⟩ := ksp_first c1
  rcases oi : op.info with ⟨sy, n1⟩
  rw [oi] at c2 c4 c6 c7
  dsimp only at c2 c4 c6 c7
  have once := ksp_try XK I c2 c3 go
  obtain ⟨sh, sg, sd, stk, sos⟩ := s
  have k1 : Looks (model prog w) sh (typeOf (.ref x)) (.ref C) := I.type
  have k2 : Looks (model prog w) sh (typeOf v) (.type T) := lv
  have k3 : Looks (model prog w) sh (fillsNumberSlot (.ref C) n1) true := fills_K XK hcd hmro c2
  have k4 : Looks (model prog w) sh (fillsNumberSlot (.type T) n1) _ := ksp_fillsT XK c6 c7
  have k5 : Looks (model prog w) sh (isSubtype (.type T) (.ref C)) false := looks_subIn XK c8
  have k6 : Looks (model prog w) sh (numberSlotInPython (.ref C) n1) true := ksp_inPy XK c2 c4 c5
  have k7 : Looks (model prog w) sh (numberSlotInPython (.type T) n1) false := Looks.of_pure rfl
  have k8 : Looks (model prog w) sh (typeLookup (.type T) (dunderR n1)) ro := looks_findIn XK c7
  revert k4
  generalize ((fo.isSome && !isSeqSlot fo) || (ro.isSome && !isSeqSlot ro)) = rt
  intro k4
  have nq : (Value.ref C == Value.type T) = false := Bool.eq_false_iff.mpr fun q => by cases beq_iff_eq.mp q
  simp only [binaryOp, oi]
  refine wpAny_holding (wpAny_bind ?_)
  unfold binaryOp1
  refine wpAny_bind (k1.at (wpAny_bind (k2.at (wpAny_bind (k3.at ?_)))))
  simp only [nq, Bool.false_eq_true, if_false]
  cases rt
  all_goals
    ksp_lk
    refine wpAny_mono once (fun r s' y => ?_) fun _ _ e => e
    obtain ⟨v', rfl, hq⟩ := y
    ksp_lk
    exact hq
open PySem.W in
/-- v op o -/
theorem bin_right {op : Operator} {v : Value} {fo ro : Option Value} {fl : Bool} {Z : Value → Shared → Prop} (F : Fr hb L s.heap m) (X0 : K.In hb) (I : InstAt s.heap x ox C od) (lv : Looks (model prog w) s.heap (typeOf v) (.type T)) (c1 : selfFirst K C = true)
    (c2 : findIn K (.ref C) (PySem.dunder op.info.2) = some (some (.ref g2))) (c3 : isFn K (.ref g) = true) (c4 : findIn K (.ref C) (dunderR op.info.2) = some (some (.ref g)))
    (c6 : findIn K (.type T) (PySem.dunder op.info.2) = some fo) (c7 : findIn K (.type T) (dunderR op.info.2) = some ro) (c9 : ((fo.isSome && !isSeqSlot fo) || (ro.isSome && !isSeqSlot ro)) = fl) (c8 : fl = true → subIn K (.ref C) (.type T) = some false)
    (no : fl = true → Looks (model prog w) s.heap (tryMethod v (PySem.dunder op.info.2) (.ref x)) none)
    (go : wpAny (model prog w) A (call (.ref g) [.ref x, v]) (PySem.W.CmpBack Z) E s) : wpAny (model prog w) A (binaryOp op v (.ref x)) Z E s := by
  have XK := X0.keeps F.keep
  obtain ⟨cd, rest, hcd, hmro⟩ := ksp_first c1
  rcases oi : op.info with ⟨sy, n1⟩
  rw [oi] at c2 c4 c6 c7 no
  dsimp only at c2 c4 c6 c7 no
  have once := ksp_try XK I c4 c3 go
  obtain ⟨sh, sg, sd, stk, sos⟩ := s
  have k1 : Looks (model prog w) sh (typeOf (.ref x)) (.ref C) := I.type
  have k2 : Looks (model prog w) sh (typeOf v) (.type T) := lv
  have k3 : Looks (model prog w) sh (fillsNumberSlot (.ref C) n1) true := fills_K XK hcd hmro c2
  have k4 : Looks (model prog w) sh (fillsNumberSlot (.type T) n1) fl := c9 ▸ ksp_fillsT XK c6 c7
  have k7 : Looks (model prog w) sh (numberSlotInPython (.type T) n1) false := Looks.of_pure rfl
  have nq : (Value.type T == Value.ref C) = false := Bool.eq_false_iff.mpr fun q => by cases beq_iff_eq.mp q
  simp only [binaryOp, oi]
  refine wpAny_holding (wpAny_bind ?_)
  unfold binaryOp1
  refine wpAny_bind (k2.at (wpAny_bind (k1.at (wpAny_bind (k4.at ?_)))))
  simp only [nq, Bool.false_eq_true, if_false]
  cases fl with
  | false =>
    ksp_lk
    refine wpAny_mono once (fun r s' y => ?_) fun _ _ e => e
    obtain ⟨v', rfl, hq⟩ := y
    ksp_lk
    exact hq
  | true =>
    have k5 : Looks (model prog w) sh (isSubtype (.ref C) (.type T)) false := looks_subIn XK (c8 rfl)
    have k9 := no rfl
    ksp_lk
    refine Looks.at k9 ?_
    ksp_lk
    refine wpAny_mono once (fun r s' y => ?_) fun _ _ e => e
    obtain ⟨v', rfl, hq⟩ := y
    ksp_lk
    exact hq
end
section
variable {X : Cx} {pins : List (Addr × Obj)} {σ : L2.St} {H : Hp} {st : Shared}
theorem od_type {v : V} {u : Value} {t : Dt} (inv : Inv X pins σ H st) (o : OdAt H v t) (r : RelV v u) : st.TypeIs u t.ty := by
  cases t with
  | sc s =>
    obtain rfl : v = s.v := o
    cases s with
    | non => cases (show u = Value.none from r); exact rfl
    | bl b => cases (show u = Value.bool b from r); exact rfl
    | int i => obtain ⟨t, rfl⟩ := (show ∃ t, u = Value.int i t from r); exact rfl
    | str x => obtain ⟨t, rfl⟩ := (show ∃ t, u = Value.str x t from r); exact rfl
  | tup l =>
    obtain ⟨a, rfl, e⟩ := o
    obtain rfl : u = Value.ref a := r
    obtain ⟨its, rv, ⟨ob, ho, hc, n, hd⟩, _⟩ := inv.tuple (SqT.of e)
    exact ⟨_, ho, hc⟩
  | lst l =>
    obtain ⟨a, rfl, e⟩ := o
    obtain rfl : u = Value.ref a := r
    obtain ⟨its, rv, ⟨ob, n, ho, hc, _, hd⟩, _⟩ := inv.list (SqL.of e)
    exact ⟨_, ho, hc⟩
  | dct l =>
    obtain ⟨a, rfl, e⟩ := o
    obtain rfl : u = Value.ref a := r
    obtain ⟨_, ns, vs, kv, ob, es, ep, ho, hex, hd, _, prs, _⟩ := dk_of inv.hok e
    exact ⟨_, ho, hex.1⟩
theorem type_looks {M : Model} {s : Shared} {u : Value} {T : String} (h : s.TypeIs u T) : PySem.W.Looks M s.heap (typeOf u) (.type T) := by
  intro A Q E s' k q
  refine wpAny_typeOf (T := T) ?_ q
  cases u with
  | ref b =>
    obtain ⟨o, e, c⟩ := h
    exact ⟨o, k _ _ e, c⟩
  | _ => exact h
end
section
variable {M : Model} {s : Shared} {x C dx : Addr}
open PySem.SeqAt PySem.MeetsSeq PySem.AutoSeq1
theorem int_and_no (i : Int) (t : Tok) : Meets (Builtin.«int.__and__» ⟨[.int i t, .ref x], []⟩) (fun _ R s => s.heap.get? x = some (PySem.W.instObj C dx) ∧ R (.ok (.ret .notImplemented)) s) :=
  .of_wp fun prog w A R s h => by obtain ⟨hp, g, d, tk, os⟩ := s; obtain ⟨hl, h⟩ := h; wp_walk using wpAny_loadPart' hl, wpAny_load hl; exact ⟨_, rfl, h⟩
theorem int_or_no (i : Int) (t : Tok) : Meets (Builtin.«int.__or__» ⟨[.int i t, .ref x], []⟩) (fun _ R s => s.heap.get? x = some (PySem.W.instObj C dx) ∧ R (.ok (.ret .notImplemented)) s) :=
  .of_wp fun prog w A R s h => by obtain ⟨hp, g, d, tk, os⟩ := s; obtain ⟨hl, h⟩ := h; wp_walk using wpAny_loadPart' hl, wpAny_load hl; exact ⟨_, rfl, h⟩
theorem int_xor_no (i : Int) (t : Tok) : Meets (Builtin.«int.__xor__» ⟨[.int i t, .ref x], []⟩) (fun _ R s => s.heap.get? x = some (PySem.W.instObj C dx) ∧ R (.ok (.ret .notImplemented)) s) :=
  .of_wp fun prog w A R s h => by obtain ⟨hp, g, d, tk, os⟩ := s; obtain ⟨hl, h⟩ := h; wp_walk using wpAny_loadPart' hl, wpAny_load hl; exact ⟨_, rfl, h⟩
theorem bool_and_no (b : Bool) : Meets (Builtin.«bool.__and__» ⟨[.bool b, .ref x], []⟩) (fun _ R s => s.heap.get? x = some (PySem.W.instObj C dx) ∧ R (.ok (.ret .notImplemented)) s) :=
  .of_wp fun prog w A R s h => by obtain ⟨hp, g, d, tk, os⟩ := s; obtain ⟨hl, h⟩ := h; wp_walk using wpAny_loadPart' hl, wpAny_load hl; exact ⟨_, rfl, h⟩
theorem bool_or_no (b : Bool) : Meets (Builtin.«bool.__or__» ⟨[.bool b, .ref x], []⟩) (fun _ R s => s.heap.get? x = some (PySem.W.instObj C dx) ∧ R (.ok (.ret .notImplemented)) s) :=
  .of_wp fun prog w A R s h => by obtain ⟨hp, g, d, tk, os⟩ := s; obtain ⟨hl, h⟩ := h; wp_walk using wpAny_loadPart' hl, wpAny_load hl; exact ⟨_, rfl, h⟩
theorem bool_xor_no (b : Bool) : Meets (Builtin.«bool.__xor__» ⟨[.bool b, .ref x], []⟩) (fun _ R s => s.heap.get? x = some (PySem.W.instObj C dx) ∧ R (.ok (.ret .notImplemented)) s) :=
  .of_wp fun prog w A R s h => by obtain ⟨hp, g, d, tk, os⟩ := s; obtain ⟨hl, h⟩ := h; wp_walk using wpAny_loadPart' hl, wpAny_load hl; exact ⟨_, rfl, h⟩
end
section
variable {prog : Program} {w : World} {M : Model} {s : Shared} {x l C dx : Addr}
open PySem.SeqAt PySem.MeetsSeq PySem.AutoSeq1
theorem dict_or_no (es : Array DictEntry) (n : Nat) (dd : Option Addr) (sl : Array (Option Value)) : MeetsIn prog w (Builtin.«dict.__or__» ⟨[.ref l, .ref x], []⟩) (fun _ R s => s.heap.get? l = some { cls := .type "dict", dict := dd, data := .dict es n, slots := sl } ∧ s.heap.get? x = some (PySem.W.instObj C dx) ∧ PySem.W.Looks (model prog w) s.heap (isSubtype (.ref C) (.type "dict")) false ∧ R (.ok (.ret .notImplemented)) s) :=
  .of_wp fun A R s h => by
    obtain ⟨hp, g, d, tk, os⟩ := s
    obtain ⟨hl, hx, hs, h⟩ := h
    have f1 : isSubtype (.type "dict") (.type "dict") = pure true := by rw [isSubtype_type]; kernel_rfl
    wp_walk using wpAny_loadPart' hl, wpAny_load hl, wpAny_loadPart' hx, wpAny_load hx, hs.here
    exact ⟨_, rfl, h⟩
end
section
variable {prog : Program} {w : World} {A : Around} {E : Value → Shared → Prop} {s : Shared} {x C dx : Addr} {Q : Option Value → Shared → Prop}
theorem try_no {u : Value} {nm T id : String} (slot : Slot T (PySem.dunder nm) id) (ty : s.TypeIs u T) (c : ∀ Z : Value → Shared → Prop, Z .notImplemented s → wpAny (model prog w) A (call (.builtin id) [u, .ref x]) Z E s) (q : Q none s) : wpAny (model prog w) A (tryMethod u (PySem.dunder nm) (.ref x)) Q E s :=
  wpAny_tryMethod_declines (T := T) (name := PySem.dunder nm) (id := id) ty slot (c _ ⟨rfl, q⟩)
theorem try_int {i : Int} {t : Tok} {nm : String} (hn : nm = "and" ∨ nm = "or" ∨ nm = "xor") (h : s.heap.get? x = some (PySem.W.instObj C dx)) (q : Q none s) : wpAny (model prog w) A (tryMethod (.int i t) (PySem.dunder nm) (.ref x)) Q E s := by
  rcases hn with rfl | rfl | rfl
  · exact try_no (nm := "and") (T := "int") (id := "int.__and__") F.slot_int_and (typeIs_int s i t) (fun Z z => call_meets F.slot_int_and (typeIs_int s i t) F.entry_int_and (F.args_int_and_2 _ _) (int_and_no i t) ⟨h, z⟩) q
  · exact try_no (nm := "or") (T := "int") (id := "int.__or__") F.slot_int_or (typeIs_int s i t) (fun Z z => call_meets F.slot_int_or (typeIs_int s i t) F.entry_int_or (F.args_int_or_2 _ _) (int_or_no i t) ⟨h, z⟩) q
  · exact try_no (nm := "xor") (T := "int") (id := "int.__xor__") F.slot_int_xor (typeIs_int s i t) (fun Z z => call_meets F.slot_int_xor (typeIs_int s i t) F.entry_int_xor (F.args_int_xor_2 _ _) (int_xor_no i t) ⟨h, z⟩) q
theorem try_bool {b : Bool} {nm : String} (hn : nm = "and" ∨ nm = "or" ∨ nm = "xor") (h : s.heap.get? x = some (PySem.W.instObj C dx)) (q : Q none s) : wpAny (model prog w) A (tryMethod (.bool b) (PySem.dunder nm) (.ref x)) Q E s := by
  have ty : s.TypeIs (.bool b) "bool" := rfl
  rcases hn with rfl | rfl | rfl
  · exact try_no (nm := "and") (T := "bool") (id := "bool.__and__") F.slot_bool_and ty (fun Z z => call_meets F.slot_bool_and ty F.entry_bool_and (F.args_bool_and_2 _ _) (bool_and_no b) ⟨h, z⟩) q
  · exact try_no (nm := "or") (T := "bool") (id := "bool.__or__") F.slot_bool_or ty (fun Z z => call_meets F.slot_bool_or ty F.entry_bool_or (F.args_bool_or_2 _ _) (bool_or_no b) ⟨h, z⟩) q
  · exact try_no (nm := "xor") (T := "bool") (id := "bool.__xor__") F.slot_bool_xor ty (fun Z z => call_meets F.slot_bool_xor ty F.entry_bool_xor (F.args_bool_xor_2 _ _) (bool_xor_no b) ⟨h, z⟩) q
theorem try_dict {l : Addr} {es : Array DictEntry} {n : Nat} {dd : Option Addr} {sl : Array (Option Value)} (hl : s.heap.get? l = some { cls := .type "dict", dict := dd, data := .dict es n, slots := sl }) (h : s.heap.get? x = some (PySem.W.instObj C dx)) (ls : PySem.W.Looks (model prog w) s.heap (isSubtype (.ref C) (.type "dict")) false) (q : Q none s) :
    wpAny (model prog w) A (tryMethod (.ref l) (PySem.dunder "or") (.ref x)) Q E s := by
  have ty : s.TypeIs (.ref l) "dict" := ⟨_, hl, rfl⟩
  exact try_no (nm := "or") (T := "dict") (id := "dict.__or__") F.slot_dict_or ty (fun Z z => call_meetsIn F.slot_dict_or ty F.entry_dict_or (F.args_dict_or_2 _ _) (dict_or_no es n dd sl) ⟨hl, h, ls, z⟩) q
end
/-! ### the rules -/
theorem ty_in (t : Dt) : t.ty ∈ ["NoneType", "bool", "int", "str", "tuple", "list", "dict"] := by
  cases t with
  | sc s => cases s <;> simp [Dt.ty]
  | tup => simp [Dt.ty]
  | lst => simp [Dt.ty]
  | dct => simp [Dt.ty]
theorem find_ty (K : PySem.W.Frag) {T : String} (h : T ∈ ["NoneType", "bool", "int", "str", "tuple", "list", "dict"]) (n : Str) (hn : n ∈ (["__and__", "__rand__", "__or__", "__ror__", "__xor__", "__rxor__", "__lshift__", "__rlshift__", "__rshift__", "__rrshift__"] : List Str)) : ∃ r, PySem.W.findIn K (.type T) n = some r := by
  have z : ∀ T ∈ ["NoneType", "bool", "int", "str", "tuple", "list", "dict"], ∀ n ∈ (["__and__", "__rand__", "__or__", "__ror__", "__xor__", "__rxor__", "__lshift__", "__rlshift__", "__rshift__", "__rrshift__"] : List Str), (PySem.fastLookup T n).isSome = true := by decide +kernel
  exact Option.isSome_iff_exists.mp (z T h n hn)
theorem sub_ty (K : PySem.W.Frag) {T : String} (h : T ∈ ["NoneType", "bool", "int", "str", "tuple", "list", "dict"]) (C : Addr) : PySem.W.subIn K (.type T) (.ref C) = some false := by
  simp only [List.mem_cons, List.not_mem_nil, or_false] at h
  rcases h with rfl | rfl | rfl | rfl | rfl | rfl | rfl <;> rfl
section
variable {X : Cx}
def ops3 : List Operator := [.BitAnd, .BitOr, .BitXor]
def ops5 : List Operator := [.BitAnd, .BitOr, .BitXor, .LShift, .RShift]
structure OwnBD (P : Program) (w : World) (K : PySem.W.Frag) (mg : Str → Option Value) (base : Heap) (CX : CXT) (k : Nat) (C : Addr) (op : Operator) (ps : List Str) (sp : Sp) : Prop where
  ex : ∃ (g : Addr) (fd : FuncData) (rc : Option Value), op ∈ ops5 ∧ PySem.W.selfFirst K C = true ∧ PySem.W.findIn K (.ref C) (PySem.dunder op.info.2) = some (some (.ref g)) ∧ PySem.W.isFn K (.ref g) = true ∧ PySem.W.findIn K (.ref C) (dunderR op.info.2) = some rc ∧ (rc = none ∨ ∃ g : Addr, rc = some (.ref g)) ∧ FnOk P w K mg base CX k g fd ps sp ∧ Binds K fd ps []
structure OwnBR (P : Program) (w : World) (K : PySem.W.Frag) (mg : Str → Option Value) (base : Heap) (CX : CXT) (k : Nat) (C : Addr) (op : Operator) (ps : List Str) (sp : Sp) : Prop where
  ex : ∃ (g g2 : Addr) (fd : FuncData), op ∈ ops3 ∧ PySem.W.selfFirst K C = true ∧ PySem.W.findIn K (.ref C) (PySem.dunder op.info.2) = some (some (.ref g2)) ∧ PySem.W.isFn K (.ref g) = true ∧ PySem.W.findIn K (.ref C) (dunderR op.info.2) = some (some (.ref g)) ∧
    PySem.W.subIn K (.ref C) (.type "int") = some false ∧ PySem.W.subIn K (.ref C) (.type "bool") = some false ∧ PySem.W.subIn K (.ref C) (.type "dict") = some false ∧ FnOk P w K mg base CX k g fd ps sp ∧ Binds K fd ps []
theorem find5 (K : PySem.W.Frag) {T : String} (h : T ∈ ["NoneType", "bool", "int", "str", "tuple", "list", "dict"]) {op : Operator} (ho : op ∈ ops5) : (∃ r, PySem.W.findIn K (.type T) (PySem.dunder op.info.2) = some r) ∧ ∃ r, PySem.W.findIn K (.type T) (dunderR op.info.2) = some r := by
  have m : ∀ op ∈ ops5, PySem.dunder op.info.2 ∈ (["__and__", "__rand__", "__or__", "__ror__", "__xor__", "__rxor__", "__lshift__", "__rlshift__", "__rshift__", "__rrshift__"] : List Str) ∧ dunderR op.info.2 ∈ (["__and__", "__rand__", "__or__", "__ror__", "__xor__", "__rxor__", "__lshift__", "__rlshift__", "__rshift__", "__rrshift__"] : List Str) := by
    intro op ho
    simp only [ops5, List.mem_cons, List.not_mem_nil, or_false] at ho
    rcases ho with rfl | rfl | rfl | rfl | rfl <;> decide +kernel
  exact ⟨find_ty K h _ (m op ho).1, find_ty K h _ (m op ho).2⟩
def rBinD (C : Addr) (sp : Sp) (E : XK) : R2 := fun x y H Q => ∃ (a dx : Addr) (fs : List (Str × V)) (t : Dt), x = .ref a ∧ H a = some (.ins C dx fs) ∧ OdAt H y t ∧ sp [x, y] H Q E
def rBinR (C : Addr) (sp : Sp) (E : XK) : R2 := fun x y H Q => ∃ (a dx : Addr) (fs : List (Str × V)) (t : Dt), y = .ref a ∧ H a = some (.ins C dx fs) ∧ OdAt H x t ∧ sp [y, x] H Q E
theorem op_binD {CX : CXT} {E : XK} {C : Addr} {op : Operator} {ps : List Str} {sp : Sp} {n : Nat} (c : OwnBD X.prog X.w X.K X.mg X.base CX n C op ps sp) (room : Room n X.A) (pass : Passes CX X E) : OpR X (binaryOp op) (rBinD C sp E) := by
  obtain ⟨g, fd, rc, ho, c1, c2, c3, c4, c5, F, bind⟩ := c.ex
  intro pins st σ h x y v u Z inv rx ry pre
  obtain ⟨a, dx, fs, t, rfl, ha, od, z⟩ := pre
  obtain rfl : v = Value.ref a := rx
  obtain ⟨oo, J⟩ := inst_of inv ha
  obtain ⟨m, hF⟩ := inv.fr
  obtain ⟨⟨fo, e1⟩, ro, e2⟩ := find5 X.K (ty_in t) ho
  refine bin_left hF inv.ok.mod.kin J (type_looks (od_type inv od ry)) c1 c2 c3 c4 c5 e1 e2 (sub_ty X.K (ty_in t) C) ?_
  refine wpAny_mono (run_fn (us := [.ref a, u]) (vs := [.ref a, y]) F room bind .nil pass inv (.cons rfl (.cons ry .nil)) z) (fun w s2 r => ?_) fun _ _ z => z
  obtain ⟨z', h2, inv2, rz, qz⟩ := r
  exact SlX.cmpback rz ⟨z', h2, inv2, rz, qz⟩
theorem on3 {op : Operator} (ho : op ∈ ops3) : op.info.2 = "and" ∨ op.info.2 = "or" ∨ op.info.2 = "xor" := by
  simp only [ops3, List.mem_cons, List.not_mem_nil, or_false] at ho
  rcases ho with rfl | rfl | rfl
  · exact .inl rfl
  · exact .inr (.inl rfl)
  · exact .inr (.inr rfl)
/-- the three operations, by types of data that know none of them, or decline -/
theorem declines {P : Program} {w : World} {pins : List (Addr × Obj)} {σ : L2.St} {H : Hp} {st : Shared} {K : PySem.W.Frag} {v : V} {u : Value} {t : Dt} {a C dx : Addr} {oo : Option Obj} {op : Operator} {fo ro : Option Value} (ho : op ∈ ops3) (inv : Inv X pins σ H st) (XK : K.In st.heap) (od : OdAt H v t) (r : RelV v u) (J : PySem.W.InstAt st.heap a (PySem.W.instObj C dx) C oo)
    (s3 : PySem.W.subIn K (.ref C) (.type "dict") = some false)
    (e1 : PySem.W.findIn K (.type t.ty) (PySem.dunder op.info.2) = some fo) (e2 : PySem.W.findIn K (.type t.ty) (dunderR op.info.2) = some ro) (fl : ((fo.isSome && !isSeqSlot fo) || (ro.isSome && !isSeqSlot ro)) = true) :
    (t.ty = "int" ∨ t.ty = "bool" ∨ t.ty = "dict") ∧ PySem.W.Looks (model P w) st.heap (tryMethod u (PySem.dunder op.info.2) (.ref a)) none := by
  have hx : st.heap.get? a = some (PySem.W.instObj C dx) := J.at_
  have none4 : ∀ T ∈ ["NoneType", "str", "tuple", "list"], ∀ n ∈ (["__and__", "__rand__", "__or__", "__ror__", "__xor__", "__rxor__"] : List Str), (PySem.fastLookup T n).map Option.isNone = some true := by decide +kernel
  have noneD : ∀ n ∈ (["__and__", "__rand__", "__xor__", "__rxor__"] : List Str), (PySem.fastLookup "dict" n).map Option.isNone = some true := by decide +kernel
  have d1 : PySem.dunder Operator.BitAnd.info.2 = "__and__" ∧ dunderR Operator.BitAnd.info.2 = "__rand__" := by decide +kernel
  have d2 : PySem.dunder Operator.BitOr.info.2 = "__or__" ∧ dunderR Operator.BitOr.info.2 = "__ror__" := by decide +kernel
  have d3 : PySem.dunder Operator.BitXor.info.2 = "__xor__" ∧ dunderR Operator.BitXor.info.2 = "__rxor__" := by decide +kernel
  have lk : ∀ (T : String) (n : Str) (r : Option Value), PySem.W.findIn K (.type T) n = some r → PySem.fastLookup T n = some r := fun _ _ _ e => e
  replace e1 := lk _ _ _ e1
  replace e2 := lk _ _ _ e2
  have clash : ∀ (T : String) (n1 n2 : Str), (PySem.fastLookup T n1).map Option.isNone = some true → (PySem.fastLookup T n2).map Option.isNone = some true → PySem.fastLookup T n1 = some fo → PySem.fastLookup T n2 = some ro → False := by
    intro T n1 n2 y1 y2 z1 z2
    rw [z1] at y1
    rw [z2] at y2
    cases fo with
    | some _ => cases y1
    | none =>
      cases ro with
      | some _ => cases y2
      | none => cases fl
  have four : t.ty ∈ ["NoneType", "str", "tuple", "list"] → False := by
    intro ht
    simp only [ops3, List.mem_cons, List.not_mem_nil, or_false] at ho
    rcases ho with rfl | rfl | rfl
    · rw [d1.1] at e1
      rw [d1.2] at e2
      exact clash _ _ _ (none4 _ ht "__and__" (by simp)) (none4 _ ht "__rand__" (by simp)) e1 e2
    · rw [d2.1] at e1
      rw [d2.2] at e2
      exact clash _ _ _ (none4 _ ht "__or__" (by simp)) (none4 _ ht "__ror__" (by simp)) e1 e2
    · rw [d3.1] at e1
      rw [d3.2] at e2
      exact clash _ _ _ (none4 _ ht "__xor__" (by simp)) (none4 _ ht "__rxor__" (by simp)) e1 e2
  cases t with
  | sc sc0 =>
    obtain rfl : v = sc0.v := od
    cases sc0 with
    | non => exact (four (by simp [Dt.ty])).elim
    | str => exact (four (by simp [Dt.ty])).elim
    | int i =>
      obtain ⟨tk, rfl⟩ := (show ∃ t, u = Value.int i t from r)
      refine ⟨.inl rfl, fun A Q E s' k q => ?_⟩
      exact try_int (C := C) (dx := dx) (on3 ho) (k _ _ hx) q
    | bl b =>
      obtain rfl := (show u = Value.bool b from r)
      refine ⟨.inr (.inl rfl), fun A Q E s' k q => ?_⟩
      exact try_bool (C := C) (dx := dx) (on3 ho) (k _ _ hx) q
  | tup l => exact (four (by simp [Dt.ty])).elim
  | lst l => exact (four (by simp [Dt.ty])).elim
  | dct l =>
    obtain ⟨b, rfl, e⟩ := od
    obtain rfl : u = Value.ref b := r
    obtain ⟨_, ns, vs, kv, ob, es, ep, hb, hex, hd, _, prs, _⟩ := dk_of inv.hok e
    refine ⟨.inr (.inr rfl), fun A Q E s' k q => ?_⟩
    simp only [ops3, List.mem_cons, List.not_mem_nil, or_false] at ho
    rcases ho with rfl | rfl | rfl
    · rw [d1.1] at e1
      rw [d1.2] at e2
      exact (clash "dict" _ _ (noneD "__and__" (by simp)) (noneD "__rand__" (by simp)) e1 e2).elim
    · obtain ⟨cls, dd, data, sl⟩ := ob
      have hc := hex.1
      simp only at hc hd
      subst hc hd
      exact try_dict (C := C) (dx := dx) (k _ _ hb) (k _ _ hx) ((PySem.W.looks_subIn XK s3).keeps k) q
    · rw [d3.1] at e1
      rw [d3.2] at e2
      exact (clash "dict" _ _ (noneD "__xor__" (by simp)) (noneD "__rxor__" (by simp)) e1 e2).elim
theorem op_binR {CX : CXT} {E : XK} {C : Addr} {op : Operator} {ps : List Str} {sp : Sp} {n : Nat} (c : OwnBR X.prog X.w X.K X.mg X.base CX n C op ps sp) (room : Room n X.A) (pass : Passes CX X E) : OpR X (binaryOp op) (rBinR C sp E) := by
  obtain ⟨g, g2, fd, ho, c1, c2, c3, c4, s1, s2, s3, F, bind⟩ := c.ex
  intro pins st σ h x y v u Z inv rx ry pre
  obtain ⟨a, dx, fs, t, rfl, ha, od, z⟩ := pre
  obtain rfl : u = Value.ref a := ry
  obtain ⟨oo, J⟩ := inst_of inv ha
  obtain ⟨m, hF⟩ := inv.fr
  have ho5 : op ∈ ops5 := by
    simp only [ops3, ops5, List.mem_cons, List.not_mem_nil, or_false] at ho ⊢
    rcases ho with h | h | h <;> simp [h]
  obtain ⟨⟨fo, e1⟩, ro, e2⟩ := find5 X.K (ty_in t) ho5
  have dc := declines (P := X.prog) (w := X.w) ho inv inv.kIn od rx J s3 e1 e2
  refine bin_right hF inv.ok.mod.kin J (type_looks (od_type inv od rx)) c1 c2 c3 c4 e1 e2 rfl (fun y => ?_) (fun y => (dc y).2) ?_
  · rcases (dc y).1 with e | e | e <;> rw [e] <;> assumption
  refine wpAny_mono (run_fn (us := [.ref a, v]) (vs := [.ref a, x]) F room bind .nil pass inv (.cons rfl (.cons rx .nil)) z) (fun w s2 r => ?_) fun _ _ z => z
  obtain ⟨z', h2, inv2, rz, qz⟩ := r
  exact SlX.cmpback rz ⟨z', h2, inv2, rz, qz⟩
end
end KR

/-! KP: repr of a list of scalars and of own objects that have a __repr__ of their own. -/
namespace KP
open PySem PySem.Spec PyProof.Rows L2 KB KG KO KY
section
variable {prog : Program} {w : World} {A : Around} {E : Value → Shared → Prop} {s : Shared} {K : PySem.W.Frag} {x C L f : Addr} {hb : Heap} {m : Str → Option Value} {ox : Obj} {od : Option Obj}
open PySem.W in
theorem boundBy_K {M : Model} {last : Value → List Value → Sem Value} {name : Str} {Z : Option Value → Shared → Prop} (XK : K.In s.heap) (J : InstAt s.heap x ox C od) (c1 : findIn K (.ref C) name = some (some (.ref f))) (c2 : isFn K (.ref f) = true)
    (go : wpAny M A (last (.ref f) [.ref x]) (fun v => Z (some v)) E s) : wpAny M A (callSpecialIfBoundBy? last (.ref x) name) Z E s := by
  simp only [callSpecialIfBoundBy?, bindSpecialIfBound?]
  refine wpAny_holding (wpAny_bind (wpAny_bind (wpAny_bind (J.type.here ((looks_findIn XK c1).here ?_)))))
  refine wpAny_bind (wpAny_askSetting (wpAny_ite ?_))
  have last1 : wpAny M A (last (.ref f) [.ref x] >>= fun v => pure (some v)) Z E s := wpAny_bind (wpAny_mono go (fun _ _ y => wpAny_pure y) fun _ _ y => y)
  split
  · exact wpAny_bind ((bind_fn XK _ (beq_iff_eq.mp c2)).here (wpAny_pure (by exact last1)))
  · exact wpAny_tryCatch (wpAny_bind ((bind_fn XK _ (beq_iff_eq.mp c2)).here (wpAny_pure (by exact last1))))
open PySem.W in
theorem reprUnder_K {b : Nat} {Z : Str → Shared → Prop} (hz : b ≤ sizeLine) (hu : A.units < cLine) (XK : K.In s.heap) (J : InstAt s.heap x ox C od) (c1 : findIn K (.ref C) "__repr__" = some (some (.ref f))) (c2 : isFn K (.ref f) = true)
    (go : wpAny (model prog w) A (call (.ref f) [.ref x]) (fun v s' => ∃ t u, v = .str t u ∧ Z t s') E s) : wpAny (model prog w) A (pyReprUnder b (.ref x)) Z E s := by
  refine wpAny_pyReprUnder_ref hz ?_
  unfold pyReprObjUnder pyReprObjBy
  refine wpAny_bind (wpAny_cRoomFor hu ?_)
  refine wpAny_bind (wpAny_bind (J.type.here ((looks_findIn XK c1).here ?_)))
  show wpAny _ _ (if (some (Value.ref f)).isNone = true then _ else _) _ _ _
  rw [if_neg (by simp)]
  refine wpAny_bind (m := callSpecialIfBoundBy? _ (.ref x) (Str.ofString "__repr__")) (boundBy_K XK J c1 c2 ?_)
  refine wpAny_mono go (fun v s' y => ?_) fun _ _ y => y
  obtain ⟨t, u, rfl, q⟩ := y
  exact wpAny_bind (wpAny_isInstance (T := "str") (b := true) rfl isSubtype_str_str (wpAny_pure ⟨_, _, rfl, q⟩))
end
/-- an item and its text -/
def ItOk (P : Program) (w : World) (C : Addr) (sp : Sp) (H : Hp) (v : V) (t : Str) : Prop :=
  (∀ u, RelV v u → ReprIs P w u t) ∨ ∃ (a dx : Addr) (fs : List (Str × V)), v = .ref a ∧ H a = some (.ins C dx fs) ∧ ∀ H', Same H H' → ∀ Q : VK, Q (.str t) H' → sp [.ref a] H' Q E0
section
variable {X : Cx}
theorem frames_loop (A : Around) (args : Args) : (A.under (.builtin "list.__repr__.loop" args)).frames = A.frames ∧ (A.under (.builtin "list.__repr__.loop" args)).handled = A.handled ∧ (A.under (.builtin "list.__repr__.loop" args)).depth ≤ A.depth + 1 := by
  refine ⟨?_, ?_, ?_⟩ <;> first | rfl | simp [Around.under, Code.weight, Code.isCreation, Code.isGuard, Code.isCaller, Code.frames, Code.isFrame, guardIds]
theorem strs_done : ∀ (ts : List Str) (us : List Value), Vals (ts.map V.str) us → ∃ dn : List (Str × Tok), us = strValues dn ∧ dn.map (·.1) = ts
  | [], us, r => by cases r; exact ⟨[], rfl, rfl⟩
  | t :: ts, us, r => by
    cases r with
    | cons r1 r2 =>
      obtain ⟨tk, rfl⟩ := r1
      obtain ⟨dn, rfl, e⟩ := strs_done ts _ r2
      exact ⟨(t, tk) :: dn, rfl, by rw [List.map_cons, e]⟩
theorem vals_at : ∀ {xs : List V} {us : List Value}, Vals xs us → ∀ (i : Nat) (v : V), xs[i]? = some v → ∃ u, us[i]? = some u ∧ RelV v u
  | _, _, .nil, i, v, e => by simp at e
  | _, _, .cons r1 r2, 0, v, e => ⟨_, rfl, by cases e; exact r1⟩
  | _, _, .cons r1 r2, i + 1, v, e => vals_at r2 i v e
theorem loop {C : Addr} {sp : Sp} {ps : List Str} {n : Nat} (c : OwnM X.prog X.w X.K X.mg X.base n C "__repr__" ps sp) {A : Around} (hfr : A.frames = X.A.frames) (hh : A.handled = none) (hd : A.depth + 1 + 3 * n + 5 < recursionLimit) (hu : A.units + 1 + 16 * n + 200 < cLine)
    {p P : Addr} {vs : List V} {ts : List Str} {H0 : Hp} (len : ts.length = vs.length) (sz : (listText ts).length ≤ sizeLine) (its : ∀ (i : Nat) (v : V) (t : Str), vs[i]? = some v → ts[i]? = some t → ItOk X.prog X.w C sp H0 v t) (nP : H0 P = none) (hp : H0 p = some (.lst vs)) {pins : List (Addr × Obj)} {σ : L2.St} {R : Result → Shared → Prop}
    (last : ∀ H' s' u, Same H0 H' → Inv X pins σ H' s' → R (.ok (.ret (.str (listText ts) u))) s') :
    ∀ (k i : Nat) (s : Shared) (H : Hp), vs.length - i = k → i ≤ vs.length → Same H0 H → Inv X pins σ H s → H P = some (.lst ((ts.take i).map V.str)) →
      codeAny (model X.prog X.w) A (.builtin "list.__repr__.loop" ⟨[.ref p, rawInt i, .ref P, rawInt ((piled (ts.take i) : Nat) : Int)], []⟩) R s := by
  obtain ⟨g, fd, hs, hf, F, bind⟩ := c.ex
  have tl := textFrom_len ts 0 "["
  have sl : (listText ts).length = (textFrom 0 "[" ts).length + 1 := by
    show (textFrom 0 "[" ts ++ "]").length = _
    rw [strLen_append]; rfl
  have s2 : ∀ t ∈ ts, t.length ≤ sizeLine := fun t ht => by
    have := tl.2.1 t ht
    omega
  have pl := piled_le_listText ts
  intro k
  induction k with
  | zero =>
    intro i s H hk hi sm inv eP
    have hin : i = vs.length := by omega
    obtain ⟨us, rv, ⟨ob, nb, ho, hc, _, hdt⟩, _⟩ := inv.list (SqL.of (sm _ _ hp))
    obtain ⟨z2, us2, n2, r2, l2, e2⟩ := inv.lstM eP
    have lu := rv.length
    refine codeAny_builtin PySem.F.entry_list_repr_loop ?_
    show wpAny _ _ (Builtin.«list.__repr__.loop» ⟨[.ref p, .int i 0, .ref P, .int ((piled (ts.take i) : Nat) : Int) 0], []⟩) _ _ s
    rw [repr_loop_tree]
    refine wpAny_bind (wpAny_listItems ho hdt ?_)
    have hno : us.toArray[(i : Int).toNat]? = none := by simp [hin, lu]
    simp only [hno]
    unfold reprEnd
    refine wpAny_bind (wpAny_listItems e2 rfl ?_)
    rw [hin, ← len, List.take_length] at r2
    obtain ⟨dn, rfl, ed⟩ := strs_done ts us2 r2
    rw [repr_fold, ed]
    refine wpAny_bind (wpAny_pure ?_)
    refine wpAny_bind (wpAny_mkStr (wpAny_pure ?_) sz)
    exact last H _ _ sm (inv.tok _)
  | succ k ih =>
    intro i s H hk hi sm inv eP
    have hlt : i < vs.length := by omega
    obtain ⟨us, rv, ⟨ob, nb, ho, hc, _, hdt⟩, _⟩ := inv.list (SqL.of (sm _ _ hp))
    have lu := rv.length
    have ev : vs[i]? = some vs[i] := List.getElem?_eq_getElem hlt
    have et : ts[i]? = some (ts[i]'(by omega)) := List.getElem?_eq_getElem (by omega)
    obtain ⟨u, eu, ru⟩ := vals_at rv i _ ev
    have it := its i _ _ ev et
    generalize ts[i]'(by omega) = t at et it
    generalize vs[i] = v at ev ru it
    have p1 := piled_take_succ et
    have p2 := piled_take_le ts (i + 1)
    refine codeAny_builtin PySem.F.entry_list_repr_loop ?_
    show wpAny _ _ (Builtin.«list.__repr__.loop» ⟨[.ref p, .int i 0, .ref P, .int ((piled (ts.take i) : Nat) : Int) 0], []⟩) _ _ s
    rw [repr_loop_tree]
    refine wpAny_bind (wpAny_listItems ho hdt ?_)
    have hso : us.toArray[(i : Int).toNat]? = some u := by simpa using eu
    simp only [hso]
    rw [Int.toNat_natCast]
    have rest : ∀ s', Inv X pins σ H s' → wpAny (model X.prog X.w) (A.under (.builtin "list.__repr__.loop" ⟨[.ref p, rawInt i, .ref P, rawInt ((piled (ts.take i) : Nat) : Int)], []⟩)) (do
        let r ← mkStr t
        Builtin.List.listUpdate (.ref P) (·.push r)
        again (.builtin "list.__repr__.loop" ⟨[.ref p, rawInt (i + 1), .ref P, rawInt ((piled (ts.take i) + (t.length + 2) : Nat) : Int)], []⟩))
        (fun fin s' => match fin with | .done f => R (.ok f) s' | .again c' => c'.quiet = true ∧ codeAny (model X.prog X.w) A c' R s') (fun e s' => R (.error e) s') s' := by
      intro s' inv'
      obtain ⟨z2, us2, n2, r2, l2, e2⟩ := inv'.lstM eP
      have l3 := r2.length
      have l4 : ((ts.take i).map V.str).length ≤ i := by simp; omega
      have l5 : i < sizeLine := by
        have := tl.1
        rw [if_neg (Nat.lt_irrefl 0)] at this
        omega
      refine wpAny_bind (wpAny_mkStr ?_ (s2 t (List.mem_of_getElem? et)))
      refine wpAny_bind ?_
      show wpAny _ _ (updateSeq P _) _ _ _
      refine wpAny_updateSeq e2 rfl (wpAny_pure ⟨PySem.F.quiet_list_repr_loop _, ?_⟩) (by rw [List.size_toArray]; omega)
      have a1 : ((i : Int) + 1) = ((i + 1 : Nat) : Int) := by omega
      have a2 : piled (ts.take i) + (t.length + 2) = piled (ts.take (i + 1)) := by omega
      rw [a1, a2]
      refine ih (i + 1) _ (upd H P (.lst ((ts.take (i + 1)).map V.str))) (by omega) hlt (same_mut sm nP) ?_ upd_same
      refine inv'.lset (its' := us2 ++ [.str t s'.toks]) eP e2 (by simp) ?_ (by simp; omega)
      rw [List.take_add_one, et, List.map_append]
      exact r2.append (.cons ⟨_, rfl⟩ .nil)
    rcases it with it | ⟨a, dx, fs, rfl, ha, it⟩
    · refine wpAny_bind (wpAny_holding (it u ru (piled (ts.take i) + 1) (by omega) _ _ _ _ fun tk => ?_))
      exact rest _ (inv.tok _)
    · obtain rfl : u = Value.ref a := ru
      obtain ⟨oo, J⟩ := inst_of inv (sm _ _ ha)
      have fl := frames_loop A ⟨[.ref p, rawInt i, .ref P, rawInt ((piled (ts.take i) : Nat) : Int)], []⟩
      have ul := units_under_list_loop A ⟨[.ref p, rawInt i, .ref P, rawInt ((piled (ts.take i) : Nat) : Int)], []⟩
      refine wpAny_bind (wpAny_holding (reprUnder_K (by omega) (by rw [ul]; omega) inv.kIn J hs hf ?_))
      have e0 := inv.env0
      refine wpAny_mono (run0 (E' := fun e s' => R (.error e) s') (xs := [.ref a]) F ⟨by rw [fl.2.1]; exact hh, by have := fl.2.2; omega, by rw [ul]; omega⟩ ⟨by rw [fl.1, hfr]; exact e0.frames, e0.mod, e0.bs, e0.bsz, e0.funs, e0.frf, e0.hok, e0.bare⟩ bind inv (.cons rfl .nil) (it H sm (fun v' H' => v' = .str t ∧ H' = H) ⟨rfl, rfl⟩)) (fun v' st y => ?_) fun _ _ y => y
      obtain ⟨w', H', inv2, rw', e1, e2⟩ := y
      subst e1 e2
      obtain ⟨tk, rfl⟩ := (show ∃ tk, v' = Value.str t tk from rw')
      exact ⟨t, tk, rfl, rest _ inv2⟩
def rReprL (P : Program) (w : World) (C : Addr) (sp : Sp) : List V → Hp → VK → Prop := fun xs H Q => ∃ (p : Addr) (vs : List V) (ts : List Str), xs = [.ref p] ∧ H p = some (.lst vs) ∧ vs ≠ [] ∧ ts.length = vs.length ∧ (listText ts).length ≤ sizeLine ∧
  (∀ (i : Nat) (v : V) (t : Str), vs[i]? = some v → ts[i]? = some t → ItOk P w C sp H v t) ∧ ∀ H', Same H H' → Q (.str (listText ts)) H'
theorem call_reprL {C : Addr} {sp : Sp} {ps : List Str} {n : Nat} (c : OwnM X.prog X.w X.K X.mg X.base n C "__repr__" ps sp) (fr : Free X.A) (room : Room (n + 1) X.A) : CallR X (.builtin "repr") (rReprL X.prog X.w C sp) := by
  intro pins st σ h xs us Z inv rel pre
  obtain ⟨p, vs, ts, rfl, hp, ne, len, sz, its, z⟩ := pre
  obtain ⟨u, rfl, rv⟩ := vals_one rel
  obtain rfl : u = Value.ref p := rv
  obtain ⟨us, rl, ⟨ob, nb, ho, hc, hsl, hd⟩, _⟩ := inv.list (SqL.of hp)
  have ty : st.TypeIs (.ref p) "list" := ⟨_, ho, hc⟩
  have un := room.un
  have dp := room.dp
  refine KG.repr_slot (by omega) ty PySem.F.slot_list_repr.toG ?_
  refine wpAny_callSpecialIfBound?_slot (name := Str.ofString "__repr__") ty PySem.F.slot_list_repr ?_
  cases us with
  | nil =>
    cases rl
    exact absurd rfl ne
  | cons u1 us =>
    refine wpAny_call (codeAny_call_builtin PySem.F.slot_list_repr.plain PySem.F.entry_list_repr (PySem.F.slot_list_repr.check _ _ _ _ _ _ _ _ ty (PySem.F.args_list_repr_1 _) ?_))
    refine wpAny_list_repr_head (A := X.A.in1.in1) (g := []) fr (fun v rest kw m => absurd m List.not_mem_nil) ho hd ?_
    refine wpAny_bind (m := newList []) (wpAny_newObj_type ?_)
    refine wpAny_pure ⟨PySem.F.quiet_list_repr_loop _, ?_⟩
    have fresh : h st.heap.objs.size = none := inv.hok.fresh (Nat.le_refl _)
    refine loop c (A := X.A.in1) (pins := pins) (σ := σ) rfl room.hd (show X.A.depth + 1 + 3 * n + 5 < _ by omega) (show X.A.units + 1 + 1 + 16 * n + 200 < _ by omega) (P := st.heap.objs.size) len sz its fresh hp (fun H' s' u sm inv' => ?_) _ 0 _ (upd h st.heap.objs.size (.lst [])) rfl (Nat.zero_le _) (same_new fresh) ?_ upd_same
    · exact ⟨_, _, rfl, .str (listText ts), H', inv', ⟨u, rfl⟩, z H' sm⟩
    · exact inv.lnew (its := []) .nil (Nat.zero_le _)
/-- one of two ways -/
theorem call_or {f : Value} {r1 r2 : List V → Hp → VK → Prop} (c1 : CallR X f r1) (c2 : CallR X f r2) : CallR X f (fun xs H Q => r1 xs H Q ∨ r2 xs H Q) := by
  intro pins st σ h xs us Z inv rel pre
  rcases pre with pre | pre
  · exact c1 pins st σ h xs us Z inv rel pre
  · exact c2 pins st σ h xs us Z inv rel pre
end
end KP
/-! ### classmethods; cls(..) -/
namespace KP
open PySem PySem.Spec PyProof.Rows L2 KB KG KO KY
section
variable {X : Cx}
structure CalleeC (P : Program) (w : World) (K : PySem.W.Frag) (mg : Str → Option Value) (base : Heap) (CX : CXT) (k : Nat) (C : Addr) (m : Str) (sp : Sp) : Prop where
  ex : ∃ (mc : Value) (p g : Addr), ClX.CRead K C mc ∧ ClX.CMet K C mc m p g ∧ FnR P w K mg base CX k g sp
theorem pe_cmethC {pl : Sem Bool} {CX : CXT} {k : Nat} {C : Addr} {m : Str} {sp : Sp} {E : XK} {o e : Expr} {es : List Expr} {apos pos : Pos} {ta : TE} {t : TA} (c : CalleeC X.prog X.w X.K X.mg X.base CX k C m sp) (ho : PE X o ta) (room : Room k X.A) (pass : Passes CX X E) (ha : PA X (e :: es) t)
    (d1 : starEach (e :: es) X.env = (false, eval e X.env) :: starEach es X.env := by rfl) (d2 : (backTo pos (starEach es X.env)).any (·.1) = false := by rfl)
    (d3 : eval (.Call (.Attribute o m apos) (e :: es) [] pos) X.env = (do
      let ov ← eval o X.env
      standAt apos.atName
      let (f, first) ← holding [ov] (getMethod ov m pl)
      callWith pos f first (backTo pos (starEach (e :: es) X.env)) (backToKw pos (keywordEach [] X.env))) := by rfl) :
    PE X (.Call (.Attribute o m apos) (e :: es) [] pos) (ClX.tCMeth C sp E ta t) := by
  obtain ⟨mc, p, g, r, cm, F⟩ := c.ex
  exact ClX.pe_cmeth ho r cm F room pass ha d1 d2 d3
def tMakeL (C : Addr) (sp : Sp) (E : XK) (tf : TE) (t : TA) : TE := fun σ H Q => tf σ H fun v H1 => v = .ref C ∧ tMake C sp [] E t σ H1 Q
theorem pe_makeL {CX : CXT} {k : Nat} {C : Addr} {x y : Str} {ps : List Str} {sp : Sp} {E : XK} {e : Expr} {es : List Expr} {p pos : Pos} {tf : TE} {t : TA} (c : CalleeI X.prog X.w X.K X.mg X.base CX k C y ps sp) (room : Room (k + 1) X.A) (pass : Passes CX X E) (hn : PE X (.Name x p) tf) (ha : PA X (e :: es) t)
    (d1 : starEach (e :: es) X.env = (false, eval e X.env) :: starEach es X.env := by rfl) (d2 : (backTo pos (starEach es X.env)).any (·.1) = false := by rfl) :
    PE X (.Call (.Name x p) (e :: es) [] pos) (tMakeL C sp E tf t) := by
  obtain ⟨f, fd, F, M, hm, hb⟩ := c.ex
  refine ⟨fun pins s σ H Q I h => wpAny_Call_Name_kw (thn (hn.run pins s σ H _ I h) fun u s1 r => ?_)⟩
  obtain ⟨v, H1, I1, rv, rfl, z⟩ := r
  obtain rfl : u = Value.ref C := rv
  refine PySem.W.callWith_K (h₀ := X.base) I1.ok.mod.kin M.kp (thn (ha.run pos pins s1 σ H1 _ I1 z) fun us s2 y => ?_) d1 d2
  obtain ⟨vs, H2, I2, r2, q2⟩ := y
  exact ⟨I2.kIn, run_make M F room hb .nil pass I2 r2 q2⟩
end
theorem r_cmeth {σ : L2.St} {H : Hp} {Q : VK} {C : Addr} {sp : Sp} {E : XK} {ta : TE} {t : TA} (q : ta σ H fun x H1 => x = .ref C ∧ t σ H1 fun vs H2 => sp (.ref C :: vs) H2 Q E) : ClX.tCMeth C sp E ta t σ H Q := q
theorem r_makeL {σ : L2.St} {H : Hp} {Q : VK} {C : Addr} {sp : Sp} {E : XK} {tf : TE} {t : TA} (q : tf σ H fun v H1 => v = .ref C ∧ tMake C sp [] E t σ H1 Q) : tMakeL C sp E tf t σ H Q := q
end KP

/-! KS: lists of texts compared; small helpers. -/
namespace KS
open PySem PySem.Spec PyProof.Rows L2 KB KG KO KY
theorem dp_strs {K : PySem.W.Frag} {H : Hp} : ∀ zs : List Str, DpAll K H (zs.map V.str) (zs.map PyData.str)
  | [] => .nil
  | z :: r => .cons (.str z) (dp_strs r)
theorem lay_strs : ∀ zs : List Str, (∀ z ∈ zs, PyData.strOk z = true) → PyData.canLayAll0 (zs.map PyData.str) = true
  | [], _ => rfl
  | n :: r, h => by
    show (PyData.canLay0 (.str n) && PyData.canLayAll0 (r.map PyData.str)) = true
    rw [lay_strs r fun z m => h z (List.mem_cons_of_mem _ m)]
    simp [PyData.canLay0, h n (List.mem_cons_self ..)]
theorem depth_strs : ∀ zs : List Str, PyData.depthAll (zs.map PyData.str) = 0
  | [] => rfl
  | n :: r => by
    show max (PyData.depth (.str n)) (PyData.depthAll (r.map PyData.str)) = 0
    rw [depth_strs r]; rfl
theorem shaped_strs {zs : List Str} (h : ∀ z ∈ zs, PyData.strOk z = true) : SeqAt.shaped (.list (zs.map PyData.str)) = true := by
  show (PyData.canLayAll0 (zs.map PyData.str) && decide (PyData.depthAll (zs.map PyData.str) + 1 ≤ 64)) = true
  rw [lay_strs zs h, depth_strs]; rfl
theorem eqv_strs : ∀ ns ms : List Str, PyData.eqvAll (ns.map PyData.str) (ms.map PyData.str) = decide (ns = ms)
  | [], [] => rfl
  | [], _ :: _ => rfl
  | _ :: _, [] => rfl
  | n :: r, m :: q => by
    show (PyData.eqv (.str n) (.str m) && PyData.eqvAll (r.map PyData.str) (q.map PyData.str)) = decide (n :: r = m :: q)
    rw [eqv_strs r q]
    have e : PyData.eqv (.str n) (.str m) = decide (n = m) := by
      simp only [PyData.eqv]
      by_cases h : n = m <;> simp [h]
    rw [e]
    by_cases h1 : n = m <;> by_cases h2 : r = q <;> simp [h1, h2]
theorem r_eqStrs {K : PySem.W.Frag} {H : Hp} {Q : VK} {a b : Addr} {ns ms : List Str} (h : SqL K H a (ns.map V.str)) (h' : SqL K H b (ms.map V.str)) (o1 : ∀ z ∈ ns, PyData.strOk z = true) (o2 : ∀ z ∈ ms, PyData.strOk z = true) (q : Q (.bl (decide (ns = ms))) H) : rEqD K (.ref a) (.ref b) H Q :=
  ⟨_, _, .lst h (dp_strs ns), .lst h' (dp_strs ms), shaped_strs o1, shaped_strs o2, (show Q (.bl (PyData.eqvAll (ns.map PyData.str) (ms.map PyData.str))) H by rw [eqv_strs]; exact q)⟩
theorem r_neStrs {K : PySem.W.Frag} {H : Hp} {Q : VK} {a b : Addr} {ns ms : List Str} (h : SqL K H a (ns.map V.str)) (h' : SqL K H b (ms.map V.str)) (o1 : ∀ z ∈ ns, PyData.strOk z = true) (o2 : ∀ z ∈ ms, PyData.strOk z = true) (q : Q (.bl (!decide (ns = ms))) H) : rNeD K (.ref a) (.ref b) H Q :=
  ⟨_, _, .lst h (dp_strs ns), .lst h' (dp_strs ms), shaped_strs o1, shaped_strs o2, (show Q (.bl (!PyData.eqvAll (ns.map PyData.str) (ms.map PyData.str))) H by rw [eqv_strs]; exact q)⟩
theorem r_sls {H : Hp} {Q : VK} {z : Str} {lo hi : Option Int} (h : z.length ≤ sizeLine) (q : Q (.str (cutS z lo hi)) H) : rSlS (.str z) lo hi H Q := ⟨z, rfl, h, q⟩
theorem rep_map {n : Nat} (z : Str) : (List.replicate ((n : Nat) : Int).toNat [V.str z]).flatten = (List.replicate n z).map V.str := by
  rw [Int.toNat_natCast]
  induction n with
  | zero => rfl
  | succ n ih => rw [List.replicate_succ, List.flatten_cons, ih, List.replicate_succ]; rfl
theorem all_rep {zs : List Str} {z : Str} (h : ∀ y ∈ zs, y = z) : zs = List.replicate zs.length z := List.eq_replicate_of_mem h
/-! ### repr of a value of a kind -/
section
variable {X : Cx}
def rReprOd : List V → Hp → VK → Prop := fun xs H Q => ∃ (v : V) (t : Dt), xs = [v] ∧ OdAt H v t ∧ t.d.showable = true ∧ t.d.depth ≤ 60 ∧ t.d.shown.length ≤ sizeLine ∧ Q (.str t.d.shown) H
theorem call_reprOd {k : Nat} (fr : Free X.A) (room : Room k X.A) : CallR X (.builtin "repr") rReprOd := by
  intro pins st σ h xs us Z inv rel pre
  obtain ⟨v, t, rfl, od, ok, deep, sz, z⟩ := pre
  obtain ⟨u, rfl, rv⟩ := vals_one rel
  obtain ⟨as, rd, ns⟩ := od_reads inv od rv
  by_cases nod : t.d.hasDict = false
  · exact KG.repr_data rd ok nod sz fr (by have := room.un; omega) fun h' t1 tk kp => ⟨.str t.d.shown, h, inv.kept kp, ⟨t1, rfl⟩, z⟩
  · cases t with
    | dct l =>
      obtain ⟨a, rfl, e⟩ := id od
      obtain rfl : u = Value.ref a := rv
      exact repr_of_reads' rd ok ns fr (by have := room.un; omega) (fun _ _ e => e) (fun h' t1 tk kp => ⟨.str _, h, inv.kept kp, ⟨t1, rfl⟩, z⟩) sz
    | sc s => exact absurd (noD_sc s) nod
    | tup l => exact absurd (show PyData.hasDictAll _ = false from noD_scs l) nod
    | lst l => exact absurd (show PyData.hasDictAll _ = false from noD_scs l) nod
end
end KS

/-! KT: sets of ints made of lists; enumerate over texts and tuples; keywords at own objects and classmethods. -/
namespace KT
open PySem PySem.Spec PyProof.Rows L2 KB KG KO KY
/-! ### set(l) of a list of ints -/
def freshSet (w : World) : Obj := { cls := .type "set", dict := none, data := .set #[] 0 (.fresh 0 0 (!w.params.followText "set-order")) }
section
variable {P : Program} {w : World} {A : Around} {E : Value → Shared → Prop} {s : Shared}
theorem set_ofL {l : Addr} {items : Array Value} (ns : List Int) {Z : Value → Shared → Prop} (calm : A.handled = none) (isL : s.heap.IsList l items) (allI : IntsAre items.toList ns) (few : ns.length + 1 < scanBound)
    (fin : ∀ (h' : Heap) (tk c : Nat), SetR w h' s.heap.objs.size (fun j => decide (j ∈ ns)) c → c ≤ ns.length → (∀ b o, s.heap.get? b = some o → h'.get? b = some o) → Z (.ref s.heap.objs.size) { s with heap := h', toks := tk }) :
    wpAny (model P w) A (call (.type "set") [.ref l]) Z E s := by
  have size : items.size = ns.length := (Array.length_toList ▸ allI.length : items.size = ns.length)
  obtain ⟨c0, tl0, mro0⟩ := F.called_set.mro
  have made0 := F.called_set.made
  have sub0 := F.called_set.sub
  refine wpAny_call (codeAny_of_tree ?_)
  show wpAny _ _ (callAny (.type "set") _) _ _ _
  refine wpAny_pure ⟨Code.quiet_builtin _ (by decide +kernel), codeAny_builtin F.entry_type_call ?_⟩
  rw [Around.under_plain (weight_type_call_type "set" [.ref l] []) rfl]
  have nt0 := F.called_set.notType
  have cc0 := F.called_set.canCreate
  have tc0 := F.typeCall_set_1 (.ref l)
  repeat (any_goals (first | assumption | wp_step))
  refine codeAny_mono (code_set_led1 (.ref l) (E := E) (Q₁ := fun ob s1 => ob = .ref s.heap.objs.size ∧ s1 = { s with heap := s.heap.push (freshSet w) }) ⟨rfl, rfl⟩) fun res s1 hres => ?_
  match res, hres with
  | .error e, hres => exact hres
  | .ok .next, hres => exact hres.elim
  | .ok .brk, hres => exact hres.elim
  | .ok .cont, hres => exact hres.elim
  | .ok (.ret ob), hres =>
    obtain ⟨rfl, rfl⟩ := hres
    have atS : (s.heap.push (freshSet w)).get? s.heap.objs.size = some (freshSet w) := Heap.get?_push_size _ rfl
    have tyS : Shared.TypeIs { s with heap := s.heap.push (freshSet w) } (.ref s.heap.objs.size) "set" := ⟨_, atS, rfl⟩
    have li0 := F.called_set.init.lookup
    have bi0 := F.called_set.init.bind (.ref s.heap.objs.size)
    repeat (any_goals (first | assumption | wp_step))
    refine codeAny_mono (codeAny_call_builtin (R := wants (fun u s2 => u = .none ∧ ∃ h' tk c, s2 = { s with heap := h', toks := tk } ∧ SetR w h' s.heap.objs.size (fun j => decide (j ∈ ns)) c ∧ c ≤ ns.length ∧ ∀ b o, s.heap.get? b = some o → h'.get? b = some o) E) F.called_set.init.plain F.entry_set_init (check_set_init_1 tyS ?_)) fun res2 s2 hres2 => ?_
    · obtain ⟨⟨lc, ld, lda, lsl⟩, lat, lcl, ln, ldd⟩ := isL
      simp only at lcl ldd
      subst lcl ldd
      have lat2 : (s.heap.push (freshSet w)).get? l = some { cls := .type "list", dict := ld, data := .seq items ln, slots := lsl } := Heap.get?_push_of_some _ lat
      have sls := F.sub_list_set
      have slf := F.sub_list_frozenset
      have lnd : (Value.type "list" == Value.type "dict") = false := by decide
      have isL2 : (s.heap.push (freshSet w)).IsList l items := ⟨_, lat2, rfl, ln, rfl⟩
      unfold Builtin.«set.__init__» noKeywords Builtin.Frozenset.updateFrom
      generalize hPI : pyIter = PI
      wp_walk
      subst hPI
      refine wpAny_pyIter_list isL2 ?_
      refine wpAny_bind (wpAny_runValue ?_)
      have lt0 : l < s.heap.objs.size := Heap.lt_size lat
      have calm3 : A.in1.in1.in1.handled = none := by simp [calm]
      have sz1 : (s.heap.push (freshSet w)).objs.size = s.heap.objs.size + 1 := Heap.size_push ..
      have ne1 : l ≠ (s.heap.push (freshSet w)).objs.size := by rw [sz1]; exact Nat.ne_of_lt (Nat.lt_succ_of_lt lt0)
      have off1 : s.heap.objs.size ∉ [(s.heap.push (freshSet w)).objs.size, l] := by
        rw [sz1]
        simp only [List.mem_cons, List.not_mem_nil, or_false, not_or]
        exact ⟨Nat.ne_of_lt (Nat.lt_succ_self _), Nat.ne_of_gt lt0⟩
      have vals1 : ∀ (i : Nat) (v : Value), items[i]? = some v → ∃ k t, ns[i]? = some k ∧ v = .int k t := fun i v hv => by
        have hi : i < ns.length := size ▸ (Array.getElem?_eq_some_iff.mp hv).1
        obtain ⟨t, e⟩ := PyProof.Rows.IntsAre.int_at allI i v ((Array.getElem?_toList ..).trans hv)
        refine ⟨ns[i], t, List.getElem?_eq_getElem hi, e.trans ?_⟩
        rw [List.getD_eq_getElem?_getD, List.getElem?_eq_getElem hi]
        rfl
      refine set_update_ints ((Walks.list calm3 _ l ne1 items).toS) s.heap.objs.size off1 ns size few vals1 (items.size - 0) 0 _ (by omega) (Nat.zero_le _) ⟨⟨_, Heap.get?_push_size _ rfl, rfl, rfl⟩, isL2.at fun o e => Heap.get?_push_of_some _ e⟩ ?S0 ?SR
      case S0 => exact ⟨0, Nat.le_refl 0, setR_new_at (Heap.get?_push_of_some _ atS)⟩
      case SR =>
        intro s3 c3 mv le3 R3
        obtain ⟨h3, g3, d3, tk3, os3⟩ := s3
        obtain rfl : g3 = s.gens := mv.gens
        obtain rfl : d3 = s.drawn := mv.drawn
        obtain rfl : os3 = s.os := mv.os
        show wpAny _ _ _ _ _ _
        refine wpAny_pure ?_
        show wpAny _ _ (ret Value.none) _ _ _
        refine wpAny_pure ⟨rfl, h3, tk3, c3, rfl, R3, size ▸ le3, fun b o e => ?_⟩
        have lb : b < s.heap.objs.size := Heap.lt_size e
        refine mv.heap b o ?_ (Heap.get?_push_of_some _ (Heap.get?_push_of_some _ e))
        simp only [List.mem_cons, List.not_mem_nil, or_false, not_or]
        exact ⟨Nat.ne_of_lt lb, fun z => absurd (z.trans sz1) (Nat.ne_of_lt (Nat.lt_succ_of_lt lb))⟩
    · match res2, hres2 with
      | .error e, hres2 => exact hres2
      | .ok .next, hres2 => exact hres2.elim
      | .ok .brk, hres2 => exact hres2.elim
      | .ok .cont, hres2 => exact hres2.elim
      | .ok (.ret u), hres2 =>
        obtain ⟨rfl, h3, tk3, c3, rfl, R3, le3, kp3⟩ := hres2
        repeat (any_goals (first | assumption | wp_step))
        exact fin _ _ _ R3 le3 kp3
end
section
variable {X : Cx}
def rSetOfI (K : PySem.W.Frag) (w : World) : List V → Hp → VK → Prop := fun xs H Q => ∃ (l : Addr) (ns : List Int), xs = [.ref l] ∧ (SqL K H l (ns.map V.int) ∨ SqT K H l (ns.map V.int)) ∧ ns.length ≤ 1000 ∧ ∀ p n, H p = none → n ≤ ns.length → Q (.ref p) (upd H p (SetO w p (fun j => decide (j ∈ ns)) n))
theorem cr_setOfI (calm : X.calm = true) : CallR X (.type "set") (rSetOfI X.K X.w) := by
  intro pins st σ h xs us Z inv rel pre
  obtain ⟨l, ns, rfl, sq, few, q⟩ := pre
  obtain ⟨u, rfl, rv⟩ := vals_one rel
  obtain rfl : u = Value.ref l := rv
  have hd := inv.ok.hd calm
  have fin : ∀ (h' : Heap) (tk c : Nat), SetR X.w h' st.heap.objs.size (fun j => decide (j ∈ ns)) c → c ≤ ns.length → (∀ b o, st.heap.get? b = some o → h'.get? b = some o) → EP X pins σ Z (.ref st.heap.objs.size) { st with heap := h', toks := tk } := fun h' tk c R le kp =>
    ⟨.ref _, upd h st.heap.objs.size (SetO X.w st.heap.objs.size (fun j => decide (j ∈ ns)) c), inv.laid (t' := tk) kp (Nat.le_refl _) (setO_new R), rfl, q _ c (inv.hok.fresh (Nat.le_refl _)) le⟩
  rcases sq with sq | sq
  · obtain ⟨its, r, pl, _⟩ := inv.list sq
    exact set_ofL ns hd pl.isList (by simpa using RZ.intsAre_vals r) (by unfold scanBound; omega) fin
  · obtain ⟨its, r, pt, _⟩ := inv.tuple sq
    exact call_set_tupI ns hd (show st.heap.IsTuple l its.toArray from pt) (by simpa using RZ.intsAre_vals r) (by unfold scanBound; omega) fin
/-- the ints of a list, each once, ascending -/
theorem sorted_unique {a b : List Int} (ha : a.Pairwise (· < ·)) (hb : b.Pairwise (· < ·)) (h : ∀ k, k ∈ a ↔ k ∈ b) : a = b := by
  induction a generalizing b with
  | nil =>
    cases b with
    | nil => rfl
    | cons y b => exact absurd ((h y).mpr (List.mem_cons_self ..)) List.not_mem_nil
  | cons x a ih =>
    cases b with
    | nil => exact absurd ((h x).mp (List.mem_cons_self ..)) List.not_mem_nil
    | cons y b =>
      have hx := List.pairwise_cons.mp ha
      have hy := List.pairwise_cons.mp hb
      have e : x = y := by
        rcases List.mem_cons.mp ((h x).mp (List.mem_cons_self ..)) with e | m
        · exact e
        · rcases List.mem_cons.mp ((h y).mpr (List.mem_cons_self ..)) with e | m2
          · exact e.symm
          · have := hy.1 x m; have := hx.1 y m2; omega
      subst e
      congr 1
      refine ih hx.2 hy.2 fun k => ?_
      constructor
      · intro m
        rcases List.mem_cons.mp ((h k).mp (List.mem_cons_of_mem _ m)) with e | m2
        · have := hx.1 k m; omega
        · exact m2
      · intro m
        rcases List.mem_cons.mp ((h k).mpr (List.mem_cons_of_mem _ m)) with e | m2
        · have := hy.1 k m; omega
        · exact m2
end
/-! ### enumerate over a text, over a tuple -/
def ItES (z : Str) : It := ⟨fun i _ => i < z.cps.size, fun i H v H' => ∃ T c, v = .ref T ∧ H T = none ∧ H' = upd H T (.tup [.int (i : Nat), .str ⟨#[c]⟩]) ∧ z.cps[i]? = some c, fun i _ => i = z.cps.size⟩
def ItET (K : PySem.W.Frag) (a : Addr) : It :=
  ⟨fun i H => ∃ (xs : List V) (x : V), SqT K H a xs ∧ xs[i]? = some x, fun i H v H' => ∃ T x, v = .ref T ∧ H T = none ∧ H' = upd H T (.tup [.int (i : Nat), x]) ∧ ∀ xs, SqT K H a xs → xs[i]? = some x, fun i H => ∃ xs : List V, SqT K H a xs ∧ xs.length = i⟩
section
variable {P : Program} {w : World} {K : PySem.W.Frag}
theorem two_obj {h : Heap} {e it : Addr} {oe oi : Obj} (h1 : h.get? e = some oe) (h2 : h.get? it = some oi) (n1 : ∀ v, oe.data ≠ .cell v) (n2 : ∀ v, oi.data ≠ .cell v) : ∀ b ∈ [e, it], ∃ o, h.get? b = some o ∧ ∀ v, o.data ≠ .cell v := fun b hb => by
  rcases List.mem_cons.mp hb with rfl | hb
  · exact ⟨_, h1, n1⟩
  · rw [List.mem_singleton.mp hb]; exact ⟨_, h2, n2⟩
/-- a new pair has come -/
theorem pair_new {X : Cx} {pins : List (Addr × Obj)} {σ : L2.St} {H : Hp} {s : Shared} {e it : Addr} {x : V} {u : Value} {i tk : Nat} {h1 h2 : Heap} (I : Inv X pins σ H s) (fp : ∀ b ∈ [e, it], FpOk X pins H b) (le : e < s.heap.objs.size) (li : it < s.heap.objs.size) (ru : RelV x u)
    (pr : h1.get? s.heap.objs.size = some { cls := .type "tuple", data := .seq #[.int i tk, u] }) (kp : ∀ b o, b ≠ e → b ≠ it → s.heap.get? b = some o → h1.get? b = some o) (sb : Heap.SameBut e h1 h2) :
    Inv X pins σ (upd H s.heap.objs.size (.tup [.int (i : Nat), x])) { s with heap := h2, toks := tk + 1 } ∧ H s.heap.objs.size = none ∧ ∀ b ∈ [e, it], upd H s.heap.objs.size (.tup [.int (i : Nat), x]) b = none := by
  have pr2 := (sb.2 _ (Nat.ne_of_gt le)).trans pr
  have ok : ObjOk X.prog X.w (upd H s.heap.objs.size (.tup [.int (i : Nat), x])) h2 s.heap.objs.size (.tup [.int (i : Nat), x]) := ⟨(by show 2 ≤ sizeLine; decide), [.int i tk, u], .cons ⟨_, rfl⟩ (.cons ru .nil), ⟨_, pr2, rfl, _, rfl⟩⟩
  refine ⟨I.turnedNew (ch := [e, it]) (fun b ob hb q => (sb.2 b (fun z => hb (by simp [z]))).trans (kp b ob (fun z => hb (by simp [z])) (fun z => hb (by simp [z])) q)) fp (Nat.le_refl _) ok, I.hok.fresh (Nat.le_refl _), fun b hb => ?_⟩
  have lb : b < s.heap.objs.size := by
    rcases List.mem_cons.mp hb with rfl | hb
    · exact le
    · rw [List.mem_singleton.mp hb]; exact li
  rw [upd_ne (Nat.ne_of_lt lb)]
  exact (fp b hb).1
theorem turn_enumS {elts : List Expr} {kk : Nat} {tpos : Pos} (z : Str) (t : Tok) (e it : Addr) :
    Turn P w K (.Tuple elts kk tpos) (ItES z) [e, it] e (fun i h => (∃ old, IsEnum h e it ((i : Nat) : Int) old) ∧ h.IsStrIter it (strIterType z) z t i ∧ e ≠ it) where
  mem := List.mem_cons_self
  obj := fun i h st => by
    obtain ⟨⟨old, he⟩, ⟨o, ho, _, hd⟩, _⟩ := st
    exact two_obj he ho (fun v q => nomatch q) (fun v q => by rw [hd] at q; cases q)
  keep := fun i h h' st k => by
    obtain ⟨⟨old, he⟩, ⟨o, ho, r⟩, ne⟩ := st
    exact ⟨⟨old, k e (by simp) _ he⟩, ⟨o, k it (by simp) o ho, r⟩, ne⟩
  item := by
    intro X e1 e2 e3 calm i pins s σ H E I fp st go
    subst e1 e2 e3
    obtain ⟨⟨old, he⟩, hit, ne⟩ := st
    have li : it < s.heap.objs.size := by obtain ⟨_, q, _⟩ := hit; exact Heap.lt_size q
    have hd : X.A.in1.handled = none := I.ok.hd calm
    refine wpAny_pyNext_enum_itemD (Draws.text hd it z t) he hit go ne (by simpa using ne) fun x h1 tk hx out hit1 pr _ kp => ?_
    obtain ⟨c, u, hc, rfl⟩ := hx
    refine ⟨_, rfl, wpAny_letOwnedTupleGo_enum (s := { s with heap := h1, toks := tk + 1 }) out fun h2 he2 sb => ?_⟩
    obtain ⟨I2, fr, no⟩ := pair_new (x := .str ⟨#[c]⟩) I fp (Heap.lt_size he) li ⟨u, rfl⟩ pr kp sb
    refine ⟨.ref s.heap.objs.size, _, I2, rfl, ⟨_, c, rfl, fr, rfl, hc⟩, ⟨⟨_, he2⟩, ?_, ne⟩, no⟩
    obtain ⟨o, ho, r⟩ := hit1
    exact ⟨o, (sb.2 it (Ne.symm ne)).trans ho, r⟩
  done := by
    intro X e1 e2 e3 calm i pins s σ H E I fp st stop
    subst e1 e2 e3
    obtain ⟨⟨old, he⟩, hit, ne⟩ := st
    obtain ⟨f0, f1, f2, f3, f4, f5⟩ := fp it (by simp)
    have hd : X.A.in1.handled = none := I.ok.hd calm
    refine wpAny_pyNext_enum_endD (Draws.text hd it z t) he (stop ▸ hit) fun h' eb => ⟨rfl, I.turned (t' := s.toks) (fun b o hb q => eb b o hb q) f0 f1 f3 f4 f5⟩
  self := fun A i s Q E st h => by
    obtain ⟨⟨_, he⟩, _⟩ := st
    exact wpAny_pyIter_enum he h
theorem turn_enumT {elts : List Expr} {kk : Nat} {tpos : Pos} (a e it : Addr) :
    Turn P w K (.Tuple elts kk tpos) (ItET K a) [e, it] e (fun i h => (∃ old, IsEnum h e it ((i : Nat) : Int) old) ∧ h.IsTupleIter it a i ∧ e ≠ it ∧ e ≠ a ∧ a ≠ it) where
  mem := List.mem_cons_self
  obj := fun i h st => by
    obtain ⟨⟨old, he⟩, ⟨o, ho, _, hd⟩, _⟩ := st
    exact two_obj he ho (fun v q => nomatch q) (fun v q => by rw [hd] at q; cases q)
  keep := fun i h h' st k => by
    obtain ⟨⟨old, he⟩, ⟨o, ho, r⟩, ne⟩ := st
    exact ⟨⟨old, k e (by simp) _ he⟩, ⟨o, k it (by simp) o ho, r⟩, ne⟩
  item := by
    intro X e1 e2 e3 calm i pins s σ H E I fp st go
    subst e1 e2 e3
    obtain ⟨⟨old, he⟩, hit, ne, nea, nai⟩ := st
    obtain ⟨xs, x, sq, hx⟩ := go
    obtain ⟨its, rv, pt, _⟩ := I.tuple sq
    obtain ⟨u, hu, ru⟩ := rv.get hx
    have li : it < s.heap.objs.size := by obtain ⟨_, q, _⟩ := hit; exact Heap.lt_size q
    have hd : X.A.in1.handled = none := I.ok.hd calm
    have lt : i < its.toArray.size := by
      rw [List.size_toArray]
      exact (List.getElem?_eq_some_iff.mp hu).1
    refine wpAny_pyNext_enum_itemD (Draws.tuple hd it a nai its.toArray) he ⟨hit, (show s.heap.IsTuple a its.toArray from pt)⟩ lt ne (by simp [ne, nea]) fun y h1 tk hy out hit1 pr _ kp => ?_
    obtain rfl : y = u := by
      have hy' : its.toArray[i]? = some y := hy
      rw [List.getElem?_toArray, hu] at hy'
      exact (Option.some.inj hy').symm
    refine ⟨_, rfl, wpAny_letOwnedTupleGo_enum (s := { s with heap := h1, toks := tk + 1 }) out fun h2 he2 sb => ?_⟩
    obtain ⟨I2, fr, no⟩ := pair_new (x := x) I fp (Heap.lt_size he) li ru pr kp sb
    refine ⟨.ref s.heap.objs.size, _, I2, rfl, ⟨_, x, rfl, fr, rfl, fun ys hy2 => ?_⟩, ⟨⟨_, he2⟩, ?_, ne, nea, nai⟩, no⟩
    · rw [I.tuple_inj hy2 sq]; exact hx
    · obtain ⟨o, ho, r⟩ := hit1.1
      exact ⟨o, (sb.2 it (Ne.symm ne)).trans ho, r⟩
  done := by
    intro X e1 e2 e3 calm i pins s σ H E I fp st stop
    subst e1 e2 e3
    obtain ⟨⟨old, he⟩, hit, ne, nea, nai⟩ := st
    obtain ⟨xs, sq, hl⟩ := stop
    obtain ⟨its, rv, pt, _⟩ := I.tuple sq
    obtain ⟨f0, f1, f2, f3, f4, f5⟩ := fp it (by simp)
    have hd : X.A.in1.handled = none := I.ok.hd calm
    have sz : its.toArray.size = i := by rw [List.size_toArray, ← rv.length, hl]
    refine wpAny_pyNext_enum_endD (Draws.tuple hd it a nai its.toArray) he ⟨sz ▸ hit, (show s.heap.IsTuple a its.toArray from pt)⟩ fun h' eb => ⟨rfl, I.turned (t' := s.toks) (fun b o hb q => eb b o hb q) f0 f1 f3 f4 f5⟩
  self := fun A i s Q E st h => by
    obtain ⟨⟨_, he⟩, _⟩ := st
    exact wpAny_pyIter_enum he h
end
section
abbrev iterT (l : Addr) : Obj := { cls := .type "tuple_iterator", data := .fields #[.ref l, .int 0 0] }
abbrev enumO (n : Addr) : Obj := { cls := .type "enumerate", data := .fields #[.none, .bool false, .ref n, rawInt 0, .none, .none] }
open AutoSeq1 (wpAny_loadPart') in
theorem enum_newT (l : Addr) (items : Array Value) (n : Nat) (dct : Option Addr) (sl : Array (Option Value)) :
    Meets (Builtin.«enumerate.__new__» ⟨[.type "enumerate", .ref l], []⟩) (fun _ R s => s.heap.get? l = some { cls := .type "tuple", dict := dct, data := .seq items n, slots := sl } ∧
      R (.ok (.ret (.ref (s.heap.push (iterT l)).objs.size))) { s with heap := (s.heap.push (iterT l)).push (enumO s.heap.objs.size) }) :=
  .of_wp fun prog w A R s pre => by
    obtain ⟨hp, g, d, tk, os⟩ := s
    obtain ⟨at0, fin⟩ := pre
    have sub0 := sub_enumerate
    have isT : Heap.IsTuple (Shared.heap ⟨hp, g, d, tk, os⟩) l items := ⟨_, at0, rfl, n, rfl⟩
    wp_walk using wpAny_loadPart' at0
    refine wpAny_stack_any fun stk => wpAny_pure ?_
    split
    · rename_i cl _ _ _ _ _
      cases (cl == Value.type "enumerate")
      · wp_walk using wpAny_loadPart' at0, wpAny_pyIter_tuple isT
        exact ⟨_, rfl, fin⟩
      · wp_walk using wpAny_loadPart' at0, wpAny_pyIter_tuple isT
        exact ⟨_, rfl, fin⟩
    · wp_walk using wpAny_loadPart' at0, wpAny_pyIter_tuple isT
      exact ⟨_, rfl, fin⟩
theorem enum_tuple {prog : Program} {w : World} {A : Around} {E : Value → Shared → Prop} {s : Shared} {l : Addr} {items : Array Value} {Z : Value → Shared → Prop} (isT : s.heap.IsTuple l items)
    (fin : ∀ h', IsEnum h' (s.heap.objs.size + 1) s.heap.objs.size 0 .none → h'.IsTupleIter s.heap.objs.size l 0 → (∀ b o, s.heap.get? b = some o → h'.get? b = some o) → Z (.ref (s.heap.objs.size + 1)) { s with heap := h' }) :
    wpAny (model prog w) A (call (.type "enumerate") [.ref l]) Z E s := by
  obtain ⟨⟨oc, od, oda, osl⟩, at0, oc1, n, od1⟩ := isT
  simp only at oc1 od1
  subst oc1 od1
  refine callType_new F.called_enumerate (by decide) (F.typeCall_enumerate_1 _) (F.newCall_enumerate_1 _) (fun ob => F.args_object_init_2 ob _) F.entry_enumerate_new (enum_newT l items n od osl) ⟨at0, ?_⟩
  have sz : (s.heap.push (iterT l)).objs.size = s.heap.objs.size + 1 := Heap.size_push ..
  show _ ∧ _
  rw [sz]
  have en : IsEnum ((s.heap.push (iterT l)).push (enumO s.heap.objs.size)) (s.heap.objs.size + 1) s.heap.objs.size 0 .none := by
    have z := Heap.get?_push_size (s.heap.push (iterT l)) (o := enumO s.heap.objs.size) rfl
    rw [sz] at z
    exact z
  exact ⟨⟨_, en, rfl⟩, fin _ en ⟨_, Heap.get?_push_of_some _ (Heap.get?_push_size _ rfl), rfl, rfl⟩ fun b o x => Heap.get?_push_of_some _ (Heap.get?_push_of_some _ x)⟩
end
section
variable {X : Cx} {e : Expr} {ta : TA} {p pos tpos : Pos} {elts : List Expr} {kk : Nat}
def iEnumS (ta : TA) : TI := fun σ H R => ta σ H fun vs H1 => ∃ z, vs = [.str z] ∧ R (ItES z) H1
def iEnumT (K : PySem.W.Frag) (ta : TA) : TI := fun σ H R => ta σ H fun vs H1 => ∃ a xs, vs = [.ref a] ∧ SqT K H1 a xs ∧ R (ItET K a) H1
theorem two_new {pins : List (Addr × Obj)} {σ : L2.St} {H : Hp} {s : Shared} (I : Inv X pins σ H s) : ∀ b ∈ [s.heap.objs.size + 1, s.heap.objs.size], FpOk X pins H b := fun b hb => by
  have le : s.heap.objs.size ≤ b := by
    rcases List.mem_cons.mp hb with rfl | hb
    · exact Nat.le_add_right _ _
    · rw [List.mem_singleton.mp hb]; exact Nat.le_refl _
  exact I.fpOk le (I.hok.fresh le)
theorem pi_enumS (hg : Gl X "enumerate") (hm : X.mg "enumerate" = none) (ha : PA X [e] ta) (hs : starEach [e] X.env = [(false, eval e X.env)] := by rfl) : PI X (.Tuple elts kk tpos) (.Call (.Name "enumerate" p) [e] [] pos) (iEnumS ta) := by
  refine ⟨fun pins s σ H R I h => ?_⟩
  refine Call_ (ld_blt I hg hm boot_enumerate (PyProof.Rows.callWith_type1 (thn (ha.run pos pins s σ H _ I h) fun us s1 res => ?_) hs rfl))
  obtain ⟨vs, H1, I1, r1, z, rfl, q⟩ := res
  obtain ⟨u, rfl, ru⟩ := vals_one r1
  obtain ⟨t, rfl⟩ := (show ∃ t, u = Value.str z t from ru)
  refine call_enumerate_str fun h' en hit _ kp => wpAny_pyIter_enum en ?_
  exact ⟨s1.heap.objs.size + 1, [s1.heap.objs.size + 1, s1.heap.objs.size], _, _, H1, rfl, I1.kept (t' := s1.toks) kp, turn_enumS z t (s1.heap.objs.size + 1) s1.heap.objs.size, ⟨⟨.none, en⟩, hit, Nat.succ_ne_self _⟩, two_new I1, q⟩
theorem pi_enumT (hg : Gl X "enumerate") (hm : X.mg "enumerate" = none) (ha : PA X [e] ta) (hs : starEach [e] X.env = [(false, eval e X.env)] := by rfl) : PI X (.Tuple elts kk tpos) (.Call (.Name "enumerate" p) [e] [] pos) (iEnumT X.K ta) := by
  refine ⟨fun pins s σ H R I h => ?_⟩
  refine Call_ (ld_blt I hg hm boot_enumerate (PyProof.Rows.callWith_type1 (thn (ha.run pos pins s σ H _ I h) fun us s1 res => ?_) hs rfl))
  obtain ⟨vs, H1, I1, r1, a, xs, rfl, sq, q⟩ := res
  obtain ⟨u, rfl, ru⟩ := vals_one r1
  obtain rfl : u = Value.ref a := ru
  obtain ⟨its, rv, pt, _⟩ := I1.tuple sq
  have isT : s1.heap.IsTuple a its.toArray := pt
  have la : a < s1.heap.objs.size := by obtain ⟨o, ho, _⟩ := isT; exact Heap.lt_size ho
  refine enum_tuple isT fun h' en hit kp => wpAny_pyIter_enum en ?_
  exact ⟨s1.heap.objs.size + 1, [s1.heap.objs.size + 1, s1.heap.objs.size], _, _, H1, rfl, I1.kept (t' := s1.toks) kp, turn_enumT a (s1.heap.objs.size + 1) s1.heap.objs.size, ⟨⟨.none, en⟩, hit, Nat.succ_ne_self _, Nat.ne_of_gt (Nat.lt_succ_of_lt la), Nat.ne_of_lt la⟩, two_new I1, q⟩
end
/-! ### walks -/
theorem walk_enumS {z : Str} : Walk (ItES z) z.cps.size (fun _ => True) (fun i H v H' => ∃ T c, v = .ref T ∧ H T = none ∧ H' = upd H T (.tup [.int (i : Nat), .str ⟨#[c]⟩]) ∧ z.cps[i]? = some c) := ⟨fun _ _ hi _ => hi, fun _ _ => rfl, fun _ _ _ _ _ _ y => y⟩
theorem walk_enumT {K : PySem.W.Frag} {a : Addr} {xs : List V} : Walk (ItET K a) xs.length (fun H => SqT K H a xs) (fun i H v H' => ∃ T x, v = .ref T ∧ H T = none ∧ H' = upd H T (.tup [.int (i : Nat), x]) ∧ xs[i]? = some x) :=
  ⟨fun i _ hi q => ⟨xs, xs[i], q, by simp [hi]⟩, fun _ q => ⟨xs, q, rfl⟩, fun _ _ _ _ _ q y => by obtain ⟨T, x, h1, h2, h3, h4⟩ := y; exact ⟨T, x, h1, h2, h3, h4 xs q⟩⟩
/-- a loop of a generator, by the walk -/
theorem gforW {J : It} {n : Nat} {G : Hp → Prop} {Y : Nat → Hp → V → Hp → Prop} (wk : Walk J n G Y) {g : TG} {tb : TGn} {D : GEnds} {ys : List V} {σ : L2.St} {H : Hp} (Pv : Nat → List V → L2.St → Hp → Prop) (h0 : Pv 0 ys σ H) (hG : ∀ i ys σ H, i ≤ n → Pv i ys σ H → G H)
    (hs : ∀ i x ys σ H H', i < n → Pv i ys σ H → Y i H x H' → g x σ H' fun σ2 H2 => tb { D with nx := Pv (i + 1), ct := Pv (i + 1), bk := D.nx } ys σ2 H2) (hd : ∀ ys σ H, Pv n ys σ H → D.nx ys σ H) :
    ∃ W : Nat → Nat → List V → L2.St → Hp → Prop, (∃ m, W 0 m ys σ H) ∧ ∀ i m ys σ H, W i m ys σ H → (J.stop i H ∧ D.nx ys σ H) ∨ (J.go i H ∧ ∃ N : List V → L2.St → Hp → Prop, (∀ ys' σ' H', N ys' σ' H' → ∃ m', m' < m ∧ W (i + 1) m' ys' σ' H') ∧ ∀ x H', J.yld i H x H' → g x σ H' fun σ2 H2 => tb { D with nx := N, ct := N, bk := D.nx } ys σ2 H2) := by
  refine ⟨fun i m ys σ H => m = n - i ∧ i ≤ n ∧ Pv i ys σ H, ⟨n, by simp, Nat.zero_le _, h0⟩, ?_⟩
  rintro i m ys σ H ⟨rfl, hi, p⟩
  have q := hG i ys σ H hi p
  by_cases lt : i < n
  · exact .inr ⟨wk.goes i H lt q, Pv (i + 1), fun ys' σ' H' p' => ⟨n - (i + 1), by omega, rfl, lt, p'⟩, fun x H' y => hs i x ys σ H H' lt p (wk.yields i H x H' lt q y)⟩
  · obtain rfl : i = n := by omega
    exact .inl ⟨wk.stops H q, hd ys σ H p⟩
end KT

/-! KGen: if and for within a generator def. -/
namespace KGen
open PySem PySem.Spec PyProof.Rows L2 GenW
section
variable {X : Cx}
/-! ### if -/
def tGIf (tc : TT) (t1 t2 : TGn) : TGn := fun D ys σ H => tc σ H fun b H1 => if b = true then t1 D ys σ H1 else t2 D ys σ H1
theorem gs_if {test : Expr} {b1 b2 : List Stmt} {pos : Pos} {tc : TT} {t1 t2 : TGn} (hc : PT X test tc) (h1 : GSs X b1 t1) (h2 : GSs X b2 t2) : GS X (.If test b1 b2 pos) (tGIf tc t1 t2) := by
  refine ⟨fun A S ip R n ys s₀ c fs K J gd lv s σ H D g hn k hI ht => ?_⟩
  obtain ⟨acc, cc, r, I⟩ := hI
  rw [exec_If]
  refine seg_bind_wrap (wpAny_standAt ?_)
  refine seg_bind_wrap ?_
  rw [g.over]
  refine wpAny_mono (hc.run _ s σ H _ I ht) (fun b s' hb => ?_) fun x s' hx => k.exc n s₀ x s' hx
  obtain ⟨H2, I2, q2⟩ := hb
  cases b with
  | true =>
    rw [if_pos rfl] at q2 ⊢
    exact h1.run A S ip R n ys s₀ c fs K J gd lv s' σ H2 D g hn k ⟨acc, cc, r, I2⟩ q2
  | false =>
    rw [if_neg Bool.false_ne_true] at q2 ⊢
    exact h2.run A S ip R n ys s₀ c fs K J gd lv s' σ H2 D g hn k ⟨acc, cc, r, I2⟩ q2
/-! ### for -/
def tGFor (wi : TI) (g : TG) (tb : TGn) : TGn := fun D ys σ H => wi σ H fun J H1 => ∃ W : Nat → Nat → List V → L2.St → Hp → Prop, (∃ m, W 0 m ys σ H1) ∧ ∀ i m ys σ H, W i m ys σ H →
  (J.stop i H ∧ D.nx ys σ H) ∨ (J.go i H ∧ ∃ N : List V → L2.St → Hp → Prop, (∀ ys' σ' H', N ys' σ' H' → ∃ m', m' < m ∧ W (i + 1) m' ys' σ' H') ∧ ∀ x H', J.yld i H x H' → g x σ H' fun σ2 H2 => tb { D with nx := N, ct := N, bk := D.nx } ys σ2 H2)
/-- what a loop does with an exception -/
abbrev noted (e : Value) (env : Env) : Sem PySem.Fin := (do noteFrame e env; theTreesLotGoes e : Sem Unit).wrap (fun _ => .raise e) .raise id id
abbrev turned (tg : Expr) (it : Value) (body : List Stmt) (env : Env) : Flow → Sem PySem.Fin := fun f => match f with
  | .next | .cont => .pure (.again (.forLoop tg it body [] env))
  | .brk => .pure (.done .next)
  | .ret v => .pure (.done (.ret v))
theorem seg_for_ {prog : Program} {w : World} {A : Around} {R : GenEnd} {Y : Protocol} {n : Nat} {s₀ : Shared} {fs : List Frame} {s : Shared} {env : Env} {tg : Expr} {it : Value} {body : List Stmt}
    (h : wpAny (model prog w) (A.over (.forLoop tg it body [] env) fs) (pyNext it) (fun r s1 => match r with
        | none => Seg (model prog w) A R Y n s₀ (.forLoop tg it body [] env) (.pure (.again (.block [] env))) fs s1
        | some v => wpAny (model prog w) (A.over (.forLoop tg it body [] env) fs) (letOwnedTupleGo tg it v) (fun _ s2 => wpAny (model prog w) (A.over (.forLoop tg it body [] env) fs) (assign tg env v) (fun _ s3 =>
            Seg (model prog w) A R Y n s₀ (.forLoop tg it body [] env) ((execs body env).wrap (turned tg it body env) (fun e => noted e env) id id) fs s3)
            (fun x s' => Seg (model prog w) A R Y n s₀ (.forLoop tg it body [] env) (noted x env) fs s') s2) (fun x s' => Seg (model prog w) A R Y n s₀ (.forLoop tg it body [] env) (noted x env) fs s') s1)
      (fun x s' => Seg (model prog w) A R Y n s₀ (.forLoop tg it body [] env) (noted x env) fs s') s) :
    Seg (model prog w) A R Y n s₀ (.forLoop tg it body [] env) ((model prog w).den (.forLoop tg it body [] env)) fs s := by
  show Seg _ A R Y n s₀ _ ((forTurn tg it body [] env).onRaise (fun x => do noteFrame x env; theTreesLotGoes x)) fs s
  have bad : ∀ (x : Value) (s' : Shared), Seg (model prog w) A R Y n s₀ (.forLoop tg it body [] env) (noted x env) fs s' → Seg (model prog w) A R Y n s₀ (.forLoop tg it body [] env) ((do noteFrame x env; theTreesLotGoes x : Sem Unit).bind fun _ => .raise x) fs s' := fun x s' hx => by
    rw [Sem.bind_eq_wrap]
    exact hx
  unfold forTurn
  rw [Sem.onRaise_eq_wrap]
  refine seg_bind_wrap (wpAny_standAt ?_)
  refine seg_bind_wrap (wpAny_onRaise (wpAny_mono h (fun r s1 h1 => ?_) fun x s' hx => wpAny_standAt (bad x s' hx)))
  cases r with
  | none => exact h1
  | some v =>
    refine seg_bind_wrap (wpAny_mono h1 (fun _ s2 h2 => ?_) fun x s' hx => bad x s' hx)
    refine seg_bind_wrap (wpAny_mono h2 (fun _ s3 h3 => ?_) fun x s' hx => bad x s' hx)
    rw [Sem.bind_eq_wrap', Sem.wrap_wrap]
    rw [Sem.wrap_congr (execs body env) _ _ (K' := turned tg it body env) (H' := fun e => noted e env) (fun f => by cases f <;> rfl) (fun e => by exact Sem.bind_eq_wrap _ _)]
    exact h3
theorem pinsAt_ne {pins : List (Addr × Obj)} {H : Hp} {fp : List Addr} {h : Heap} {S : Addr} {o : Obj} (hf : ∀ b ∈ fp, FpOk X ((S, o) :: pins) H b) : ∀ p ∈ pinsAt fp h, p.1 ≠ S := fun p hp z => by
  obtain ⟨hb, _⟩ := of_pinsAt hp
  exact (hf p.1 hb).2.2.2.2.2 (S, o) (List.mem_append_right _ List.mem_cons_self) z.symm
theorem gs_for {tg iter : Expr} {body : List Stmt} {wi : TI} {g : TG} {tb : TGn} {pos : Pos} (hp : PassesOwn (model X.prog X.w) X.A X.env X.xe) (calm : X.calm = true) (hi : PI X tg iter wi) (hg : PG X tg g) (hb : GSs X body tb)
    (hs : ∀ x, foldedSetIterable iter X.env x = pure x := by intro _; rfl) : GS X (.For tg iter body [] pos) (tGFor wi g tb) := by
  refine ⟨fun A S ip R n ys s₀ c fs K J gd lv s σ H D gc hn k hI ht => ?_⟩
  obtain ⟨acc, cc, r, I⟩ := hI
  rw [exec_For]
  refine seg_bind_wrap (wpAny_standAt ?_)
  refine seg_bind_wrap ?_
  rw [gc.over]
  refine wpAny_mono (hi.run _ s σ H _ I ht) (fun v s1 h1 => ?_) fun x s' hx => k.exc n s₀ x s' hx
  refine seg_bind_wrap (wpAny_of_eq (hs v) ?_)
  refine seg_bind_wrap (wpAny_standAt ?_)
  refine seg_bind_wrap (wpAny_holding ?_)
  rw [gc.over]
  refine wpAny_mono h1 (fun itv s2 h2 => ?_) fun x s' hx => k.exc n s₀ x s' hx
  obtain ⟨it, fp, tn, JJ, H2, rfl, I2, T, st2, f2, W, ⟨m0, w0⟩, turn⟩ := h2
  refine seg_call fun p => ?_
  have gl := fun (kk : Result → Sem PySem.Fin) => gc_loop (k := kk) (c' := .forLoop tg (.ref it) body [] X.env) (l := lv []) (kp := []) (p := p) gc rfl rfl
  have gb := fun (kk : Result → Sem PySem.Fin) => gc_loop (k := kk) (c' := .block [] X.env) (l := lv []) (kp := []) (p := p) gc rfl rfl
  have loop : ∀ (m i n : Nat) (ys : List V) (acc : Array Value) (cc : Nat) (s₀ s : Shared) (σ : L2.St) (H : Hp), Vals ys acc.toList → n + ys.length = sizeLine → W i m ys σ H → Inv X ((S, lstObj acc cc) :: ip) σ H s → tn i s.heap → (∀ b ∈ fp, FpOk X ((S, lstObj acc cc) :: ip) H b) →
      Seg (model X.prog X.w) A R (GY X S) n s₀ (.forLoop tg (.ref it) body [] X.env) ((model X.prog X.w).den (.forLoop tg (.ref it) body [] X.env))
        (.ret (fun r => ((match r with | .ok f => (.pure f : Sem Flow) | .error e => .raise e).onRaise (cameBack X.env)).wrap K J gd lv) none (gd false) (lv []) c p [] :: fs) s := by
    intro m
    induction m using Nat.strongRecOn with
    | ind m ih =>
      intro i n ys acc cc s₀ s σ H r hn w I st f
      have ee : ∀ (n : Nat) (s₀ : Shared) (x : Value) (s' : Shared), X.xe x s' → Seg (model X.prog X.w) A R (GY X S) n s₀ (.forLoop tg (.ref it) body [] X.env) (noted x X.env)
          (.ret (fun r => ((match r with | .ok f => (.pure f : Sem Flow) | .error e => .raise e).onRaise (cameBack X.env)).wrap K J gd lv) none (gd false) (lv []) c p [] :: fs) s' := fun n s₀ x s' hx => by
        refine seg_wrap ?_
        rw [(gl _).over]
        refine wpAny_bind (wpAny_mono (hp x s' hx) (fun _ s'' hcb => wpAny_theTreesLotGoes ?_) fun y s'' hcb => ?_)
        · exact seg_leaf (.error x) (seg_cameBack gc k hcb)
        · exact seg_leaf (.error y) (seg_cameBack gc k hcb)
      refine seg_for_ ?_
      rw [(gl _).over]
      rcases turn i m ys σ H w with ⟨stop, qn⟩ | ⟨go, N, hN, step⟩
      · refine wpAny_mono (T.done X rfl rfl rfl calm i _ s σ H X.xe I f st stop) (fun r' s3 hr => ?_) fun x s' hx => ee n s₀ x s' hx
        obtain ⟨rfl, I3⟩ := hr
        refine seg_again rfl ?_
        show Seg _ _ _ _ _ _ _ (((execs [] X.env).onRaise (fun x => do noteFrame x X.env; theTreesLotGoes x)) >>= fun f => pure (.done f)) _ _
        exact seg_leaf (.ok .next) (k.ok n ys s₀ s3 .next hn ⟨σ, H, ⟨acc, cc, r, I3⟩, qn⟩)
      · refine wpAny_mono (T.item X rfl rfl rfl calm i _ s σ H X.xe I f st go) (fun r' s3 hr => ?_) fun x s' hx => ee n s₀ x s' hx
        obtain ⟨u, rfl, h3⟩ := hr
        refine wpAny_mono h3 (fun _ s5 h5 => ?_) fun x s' hx => ee n s₀ x s' hx
        obtain ⟨x5, H5, I5, r5, y5, st5, fr5⟩ := h5
        have f5 : ∀ b ∈ fp, FpOk X ((S, lstObj acc cc) :: ip) H5 b := fun b hb => ⟨fr5 b hb, (f b hb).2⟩
        have I5' := I5.pinned f5 (T.obj _ _ st5)
        refine wpAny_mono (hg.run _ s5 σ H5 x5 u _ I5' r5 (step x5 H5 y5)) (fun _ s6 h6 => ?_) fun x s' hx => ee n s₀ x s' hx
        obtain ⟨σ6, H6, I6, q6⟩ := h6
        have gp : GC X S (ip ++ pinsAt fp s5.heap) A (.forLoop tg (.ref it) body [] X.env) (.ret (fun r => ((match r with | .ok f => (.pure f : Sem Flow) | .error e => .raise e).onRaise (cameBack X.env)).wrap K J gd lv) none (gd false) (lv []) c p [] :: fs) id :=
          { gl _ with ip := fun p hp => (List.mem_append.mp hp).elim (gc.ip p) (pinsAt_ne f5 p) }
        refine hb.run A S (ip ++ pinsAt fp s5.heap) R n ys s₀ _ _ _ _ id id s6 σ6 H6 { D with nx := N, ct := N, bk := D.nx } gp hn ⟨fun n' ys' s₀' s7 fl hn' hs' => ?_, fun n' s₀' x s7 hx => ee n' s₀' x s7 hx⟩ ⟨acc, cc, r, I6⟩ q6
        have again : ∀ {σ7 : L2.St} {H7 : Hp}, GI X S (ip ++ pinsAt fp s5.heap) ys' σ7 H7 s7 → N ys' σ7 H7 → Seg (model X.prog X.w) A R (GY X S) n' s₀' (.forLoop tg (.ref it) body [] X.env) (.pure (.again (.forLoop tg (.ref it) body [] X.env)))
            (.ret (fun r => ((match r with | .ok f => (.pure f : Sem Flow) | .error e => .raise e).onRaise (cameBack X.env)).wrap K J gd lv) none (gd false) (lv []) c p [] :: fs) s7 := fun {σ7 H7} G7 n7 => by
          obtain ⟨acc7, cc7, r7, I7⟩ := G7
          obtain ⟨m', hm, w7⟩ := hN ys' σ7 H7 n7
          have at7 : ∀ b ∈ fp, ∀ o, s5.heap.get? b = some o → s7.heap.get? b = some o ∧ H7 b = none := fun b hb o e => by
            have z := I7.pin (b, o) (List.mem_append_right _ (List.mem_cons_of_mem _ (List.mem_append_right _ (mem_pinsAt hb e))))
            exact ⟨z.1, z.2.1⟩
          refine seg_again rfl (ih m' hm (i + 1) n' ys' acc7 cc7 s₀' s7 σ7 H7 r7 hn' w7 (I7.pins_of fun q hq => I7.pin q (List.mem_append_right _ ?_)) (T.keep _ _ _ st5 fun b hb o e => (at7 b hb o e).1) fun b hb => ?_)
          · rcases List.mem_cons.mp hq with rfl | hq
            · exact List.mem_cons_self
            · exact List.mem_cons_of_mem _ (List.mem_append_left _ hq)
          · obtain ⟨o, e, _⟩ := T.obj _ _ st5 b hb
            obtain ⟨z1, z2, z3, z4, z5, z6⟩ := f b hb
            refine ⟨(at7 b hb o e).2, z2, z3, z4, z5, fun q hq => ?_⟩
            rcases List.mem_append.mp hq with hq | hq
            · exact z6 q (List.mem_append_left _ hq)
            · rcases List.mem_cons.mp hq with rfl | hq
              · exact z6 (S, lstObj acc cc) (List.mem_append_right _ List.mem_cons_self)
              · exact z6 q (List.mem_append_right _ (List.mem_cons_of_mem _ hq))
        have drop : ∀ {σ7 : L2.St} {H7 : Hp}, GI X S (ip ++ pinsAt fp s5.heap) ys' σ7 H7 s7 → GI X S ip ys' σ7 H7 s7 := fun {σ7 H7} G7 => by
          obtain ⟨acc7, cc7, r7, I7⟩ := G7
          refine ⟨acc7, cc7, r7, I7.pins_of fun q hq => I7.pin q (List.mem_append_right _ ?_)⟩
          rcases List.mem_cons.mp hq with rfl | hq
          · exact List.mem_cons_self
          · exact List.mem_cons_of_mem _ (List.mem_append_left _ hq)
        cases fl with
        | next => obtain ⟨σ7, H7, G7, n7⟩ := hs'; exact again G7 n7
        | cont => obtain ⟨σ7, H7, G7, n7⟩ := hs'; exact again G7 n7
        | brk => obtain ⟨σ7, H7, G7, q7⟩ := hs'; exact seg_leaf (.ok .next) (k.ok n' ys' s₀' s7 .next hn' ⟨σ7, H7, drop G7, q7⟩)
        | ret v => obtain ⟨x7, σ7, H7, G7, r7, q7⟩ := hs'; exact seg_leaf (.ok (.ret v)) (k.ok n' ys' s₀' s7 (.ret v) hn' ⟨x7, σ7, H7, drop G7, r7, q7⟩)
  exact loop m0 0 n ys acc cc s₀ s2 σ H2 r hn w0 I2 st2 f2
end
end KGen

/-! KU: classmethods and own objects called by keywords; list(o.m()) of a generator method. -/
namespace KU
open PySem PySem.Spec PyProof.Rows L2 KB KG KO KY
section
variable {X : Cx}
/-- n: the positional values, the class among them -/
structure CalleeCK (P : Program) (w : World) (K : PySem.W.Frag) (mg : Str → Option Value) (base : Heap) (CX : CXT) (k : Nat) (C : Addr) (m : Str) (ps : List Str) (sp : Sp) (n : Nat) (ks : List Str) (gV : List V → List V → List V) : Prop where
  ex : ∃ (mc : Value) (p g : Addr) (fd : FuncData) (gg : List Value → List Value → List Value), ClX.CRead K C mc ∧ ClX.CMet K C mc m p g ∧ FnOk P w K mg base CX k g fd ps sp ∧ KBn K fd ps n ks gg gV
theorem run_cmK {CX : CXT} {k n : Nat} {g C q : Addr} {fd : FuncData} {ps ks : List Str} {sp : Sp} {gg : List Value → List Value → List Value} {gV : List V → List V → List V} {E : XK} {Z : VK} {pins : List (Addr × Obj)} {σ : L2.St} {H : Hp} {s : Shared} {us ws : List Value} {vs zs : List V}
    (F : FnOk X.prog X.w X.K X.mg X.base CX k g fd ps sp) (room : Room k X.A) (hb : KBn X.K fd ps n ks gg gV) (pass : Passes CX X E) (I : Inv X ((q, PySem.W.methodObj (.ref g) (.ref C)) :: pins) σ H s) (r : Vals vs us) (rz : Vals zs ws) (l1 : vs.length + 1 = n) (l2 : zs.length = ks.length)
    (h : sp (gV (.ref C :: vs) zs) H Z E) : wpAny (model X.prog X.w) X.A (call (.ref q) us (ks.zip ws)) (EP X pins σ Z) X.xe s := by
  have rel : Vals (V.ref C :: vs) (Value.ref C :: us) := .cons rfl r
  have bt := hb.to s (Value.ref C :: us) ws I.kIn (by rw [List.length_cons, ← r.length]; exact l1) (rz.length.symm.trans l2)
  have z : wpAny (model X.prog X.w) X.A (call (.ref q) us (ks.zip ws)) (EP X ((q, PySem.W.methodObj (.ref g) (.ref C)) :: pins) σ Z) X.xe s := by
    refine wpAny_call (PySem.W.method_call (ClX.pin_at I) ?_)
    refine codeAny_mono (F.run X.A X.stack s H ⟨.ref C :: us, ks.zip ws⟩ _ _ Z E room I.env0 bt (hb.rel rel rz) h) fun res s2 y => ?_
    match res, y with
    | .error e, y => exact pass _ σ H s e s2 I y
    | .ok (.ret u), y => exact I.after y
    | .ok .next, y => exact y.elim
    | .ok .brk, y => exact y.elim
    | .ok .cont, y => exact y.elim
  exact thn z fun _ _ y => ClX.unpinE y
def tCMethK (C : Addr) (sp : Sp) (n m : Nat) (gV : List V → List V → List V) (E : XK) (ta : TE) (t tk : TA) : TE := fun σ H Q => ta σ H fun x H1 => x = .ref C ∧ t σ H1 fun vs H2 => tk σ H2 fun zs H3 => (vs.length + 1 = n ∧ zs.length = m) ∧ sp (gV (.ref C :: vs) zs) H3 Q E
/-- C.m(e, .., k = v, ..) -/
theorem pe_cmethK {pl : Sem Bool} {CX : CXT} {k n : Nat} {C : Addr} {m : Str} {ps ks : List Str} {sp : Sp} {gV : List V → List V → List V} {E : XK} {o e : Expr} {es : List Expr} {kws : List Keyword} {apos pos : Pos} {ta : TE} {t tk : TA} (c : CalleeCK X.prog X.w X.K X.mg X.base CX k C m ps sp n ks gV) (ho : PE X o ta) (room : Room k X.A) (pass : Passes CX X E)
    (ha : PA X (e :: es) t) (hkw : PK X kws tk) (d1 : (backToKw pos (keywordEach kws X.env)).all (·.1.isSome) = true := by rfl) (d2 : (backToKw pos (keywordEach kws X.env)).filterMap (·.1) = ks := by rfl) (d3 : ((backTo pos (starEach (e :: es) X.env)).any (·.1) || (backToKw pos (keywordEach kws X.env)).any (·.1.isNone)) = false := by rfl)
    (d5 : starEach (e :: es) X.env = (false, eval e X.env) :: starEach es X.env := by rfl)
    (d4 : eval (.Call (.Attribute o m apos) (e :: es) kws pos) X.env = (do
      let ov ← eval o X.env
      standAt apos.atName
      let (f, first) ← holding [ov] (getMethod ov m pl)
      callWith pos f first (backTo pos (starEach (e :: es) X.env)) (backToKw pos (keywordEach kws X.env))) := by rfl) :
    PE X (.Call (.Attribute o m apos) (e :: es) kws pos) (tCMethK C sp n ks.length gV E ta t tk) := by
  obtain ⟨mc, p, g, fd, gg, r, cm, F, hb⟩ := c.ex
  refine ⟨fun pins s σ H Z I h => PySem.W.methodCall_KW (pl := pl) (thn (ho.run pins s σ H _ I h) fun u s1 res => ?_) d4⟩
  obtain ⟨x, H1, I1, rx, rfl, q⟩ := res
  obtain rfl : u = Value.ref C := rx
  refine ClX.getmethcm_ok I1 r cm fun s2 I2 => ?_
  refine PySem.W.callWith_of d3 (PySem.W.keeps_M (self := .ref C) cm.fi) (evalArgs_kw2 d1 (thn (ha.run pos _ s2 σ H1 _ I2 q) fun us s3 res => ?_) d5)
  obtain ⟨vs, H2, I3, rv, q⟩ := res
  refine thn (hkw.run pos _ s3 σ H2 _ I3 q) fun ws s4 res => ?_
  obtain ⟨zs, H3, I4, rz, l, q⟩ := res
  refine ⟨⟨ClX.pin_at I4, I4.kIn⟩, ?_⟩
  rw [d2]
  exact run_cmK F room hb pass I4 rv rz l.1 l.2 q
/-- C.m(k = v, ..) -/
theorem pe_cmethK0 {pl : Sem Bool} {CX : CXT} {k : Nat} {C : Addr} {m : Str} {ps ks : List Str} {sp : Sp} {gV : List V → List V → List V} {E : XK} {o : Expr} {kws : List Keyword} {apos pos : Pos} {ta : TE} {tk : TA} (c : CalleeCK X.prog X.w X.K X.mg X.base CX k C m ps sp 1 ks gV) (ho : PE X o ta) (room : Room k X.A) (pass : Passes CX X E)
    (hkw : PK X kws tk) (d1 : (backToKw pos (keywordEach kws X.env)).all (·.1.isSome) = true := by rfl) (d2 : (backToKw pos (keywordEach kws X.env)).filterMap (·.1) = ks := by rfl) (d3 : ((backTo pos (starEach [] X.env)).any (·.1) || (backToKw pos (keywordEach kws X.env)).any (·.1.isNone)) = false := by rfl)
    (d4 : eval (.Call (.Attribute o m apos) [] kws pos) X.env = (do
      let ov ← eval o X.env
      standAt apos.atName
      let (f, first) ← holding [ov] (getMethod ov m pl)
      callWith pos f first (backTo pos (starEach [] X.env)) (backToKw pos (keywordEach kws X.env))) := by rfl) :
    PE X (.Call (.Attribute o m apos) [] kws pos) (tCMethK C sp 1 ks.length gV E ta tNil tk) := by
  obtain ⟨mc, p, g, fd, gg, r, cm, F, hb⟩ := c.ex
  refine ⟨fun pins s σ H Z I h => PySem.W.methodCall_KW (pl := pl) (thn (ho.run pins s σ H _ I h) fun u s1 res => ?_) d4⟩
  obtain ⟨x, H1, I1, rx, rfl, q⟩ := res
  obtain rfl : u = Value.ref C := rx
  refine ClX.getmethcm_ok I1 r cm fun s2 I2 => ?_
  refine PySem.W.callWith_of d3 (PySem.W.keeps_M (self := .ref C) cm.fi) (evalArgs_kw2_nil d1 (thn (hkw.run pos _ s2 σ H1 _ I2 q) fun ws s4 res => ?_))
  obtain ⟨zs, H3, I4, rz, l, q⟩ := res
  refine ⟨⟨ClX.pin_at I4, I4.kIn⟩, ?_⟩
  rw [d2]
  exact run_cmK (us := []) (vs := []) F room hb pass I4 .nil rz l.1 l.2 q
theorem r_cmethK {σ : L2.St} {H : Hp} {Q : VK} {C : Addr} {sp : Sp} {n m : Nat} {gV : List V → List V → List V} {E : XK} {ta : TE} {t tk : TA} (q : ta σ H fun x H1 => x = .ref C ∧ t σ H1 fun vs H2 => tk σ H2 fun zs H3 => (vs.length + 1 = n ∧ zs.length = m) ∧ sp (gV (.ref C :: vs) zs) H3 Q E) : tCMethK C sp n m gV E ta t tk σ H Q := q
/-! ### o(k = v) of an own object -/
structure OwnCK (P : Program) (w : World) (K : PySem.W.Frag) (mg : Str → Option Value) (base : Heap) (CX : CXT) (k : Nat) (C : Addr) (ps : List Str) (sp : Sp) (ks : List Str) (gV : List V → List V → List V) : Prop where
  ex : ∃ (g : Addr) (fd : FuncData) (gg : List Value → List Value → List Value), PySem.W.findIn K (.ref C) "__call__" = some (some (.ref g)) ∧ PySem.W.isFn K (.ref g) = true ∧ PySem.W.fnIn K g = true ∧ FnOk P w K mg base CX k g fd ps sp ∧ KBn K fd ps 1 ks gg gV
def tCallOK (C : Addr) (sp : Sp) (m : Nat) (gV : List V → List V → List V) (E : XK) (tf : TE) (tk : TA) : TE := fun σ H Q => tf σ H fun x H1 => ∃ (a dx : Addr) (fs : List (Str × V)), x = .ref a ∧ H1 a = some (.ins C dx fs) ∧ tk σ H1 fun zs H2 => H2 a = some (.ins C dx fs) ∧ zs.length = m ∧ sp (gV [.ref a] zs) H2 Q E
theorem pe_callOK {CX : CXT} {k : Nat} {C : Addr} {x : Str} {ps ks : List Str} {sp : Sp} {gV : List V → List V → List V} {E : XK} {kws : List Keyword} {p pos : Pos} {tf : TE} {tk : TA} (c : OwnCK X.prog X.w X.K X.mg X.base CX k C ps sp ks gV) (room : Room k X.A) (pass : Passes CX X E) (hf : PE X (.Name x p) tf) (hkw : PK X kws tk)
    (d1 : (backToKw pos (keywordEach kws X.env)).all (·.1.isSome) = true := by rfl) (d2 : (backToKw pos (keywordEach kws X.env)).filterMap (·.1) = ks := by rfl) (d3 : ((backTo pos (starEach [] X.env)).any (·.1) || (backToKw pos (keywordEach kws X.env)).any (·.1.isNone)) = false := by rfl) :
    PE X (.Call (.Name x p) [] kws pos) (tCallOK C sp ks.length gV E tf tk) := by
  obtain ⟨g, fd, gg, hs, hfn, hfi, F, hb⟩ := c.ex
  refine ⟨fun pins st σ h Z inv pre => wpAny_Call_Name_kw (thn (hf.run pins st σ h _ inv pre) fun u s1 r => ?_)⟩
  obtain ⟨v, h1, inv1, rv, a, dx, fs, rfl, ea, z⟩ := r
  obtain rfl : u = Value.ref a := rv
  refine KC.callWith_own (C := C) (dx := dx) d3 (evalArgs_kw2_nil d1 (thn (hkw.run pos pins s1 σ h1 _ inv1 z) fun ws s2 r => ?_))
  obtain ⟨zs, h2, inv2, rel, ea2, l, z2⟩ := r
  obtain ⟨od, J⟩ := inst_of inv2 ea2
  refine ⟨⟨_, J⟩, ?_⟩
  rw [d2]
  have bt := hb.to s2 [Value.ref a] ws inv2.kIn rfl (rel.length.symm.trans l)
  refine wpAny_call (codeAny_mono (PySem.W.kco_code inv2.kIn J rfl hs hfn hfi (F.run X.A X.stack s2 h2 ⟨[Value.ref a], ks.zip ws⟩ _ _ Z E room inv2.env0 bt (hb.rel (vs := [.ref a]) (us := [Value.ref a]) (.cons rfl .nil) rel) z2)) fun res s3 y => ?_)
  match res, y with
  | .error e, y => exact pass pins σ h2 s2 e s3 inv2 y
  | .ok (.ret u), y => exact inv2.after y
  | .ok .next, y => exact y.elim
  | .ok .brk, y => exact y.elim
  | .ok .cont, y => exact y.elim
theorem r_callOK {σ : L2.St} {H : Hp} {Q : VK} {C : Addr} {sp : Sp} {m : Nat} {gV : List V → List V → List V} {E : XK} {tf : TE} {tk : TA} (q : tf σ H fun x H1 => ∃ (a dx : Addr) (fs : List (Str × V)), x = .ref a ∧ H1 a = some (.ins C dx fs) ∧ tk σ H1 fun zs H2 => H2 a = some (.ins C dx fs) ∧ zs.length = m ∧ sp (gV [.ref a] zs) H2 Q E) : tCallOK C sp m gV E tf tk σ H Q := q
/-! ### list(o.m()) -/
structure CalleeGM (P : Program) (w : World) (K : PySem.W.Frag) (mg : Str → Option Value) (base : Heap) (k : Nat) (C : Addr) (m : Str) (ps : List Str) (sp : SpG) : Prop where
  ex : ∃ (f : Addr) (fd : FuncData), GFn P w K mg base k f fd ps sp ∧ Meth K C m f ∧ Binds K fd ps []
  cl : Cls K C
theorem noStop0 {K : PySem.W.Frag} : NoStop K E0 := fun _ _ _ h => h.elim
theorem pe_listM {pl : Sem Bool} {k : Nat} {C : Addr} {m : Str} {ps : List Str} {sp : SpG} {o : Expr} {apos pos pos' p : Pos} {ta : TE} (c : CalleeGM X.prog X.w X.K X.mg X.base k C m ps sp) (ho : PE X o ta) (room : Room (k + 3) X.A) (hg : Gl X "list") (hm : X.mg "list" = none)
    (d1 : starEach [.Call (.Attribute o m apos) [] [] pos'] X.env = (false, eval (.Call (.Attribute o m apos) [] [] pos') X.env) :: starEach [] X.env := by rfl)
    (d4 : eval (.Call (.Attribute o m apos) [] [] pos') X.env = (do
      let ov ← eval o X.env
      standAt apos.atName
      let (f, first) ← holding [ov] (getMethod ov m pl)
      callWith pos' f first (backTo pos' (starEach [] X.env)) (backToKw pos' (keywordEach [] X.env))) := by rfl) :
    PE X (.Call (.Name "list" p) [.Call (.Attribute o m apos) [] [] pos'] [] pos) (tListG (tMethG C m sp [] E0 ta tNil)) := by
  obtain ⟨f, fd, F, hme, hb⟩ := c.ex
  exact pe_listG (pgen_meth0 (dvs := []) (ds := []) ho c.cl hme F (room.mono (by omega)) hb .nil d4) passL noStop0 room hg hm (by decide +kernel) (by decide) (by decide) d1
theorem r_listM {σ : L2.St} {H : Hp} {Q : VK} {C : Addr} {m : Str} {sp : SpG} {ta : TE} (q : ta σ H fun x H1 => ∃ a dx fs, x = .ref a ∧ H1 a = some (.ins C dx fs) ∧ fs.lookup m = none ∧ sp [x] H1 (fun out H2 => ∀ p, H2 p = none → Q (.ref p) (upd H2 p (.lst out))) E0) : tListG (tMethG C m sp [] E0 ta tNil) σ H Q := q
end
/-! ### name = {k: v for ..} -/
section
variable {X : Cx}
theorem sw_dict {kx vx : Expr} {gs : List Comprehension} {scope : Scope} {pos py : Pos} {y : Str} {l : Nat} {env : Env} (h1 : env.scope.kind = .function) (h2 : env.scope.names.lookup y = some .local) (h3 : (py.line == pos.line) = true)
    (h4 : (scope.names.any fun (n, k) => n == y && (k == .local || k == .cell)) = false) : swapsWith (.DictComp kx vx gs scope pos) (some (.Name y py)) l env = pure true := by
  have k1 : env.kindOf y = some .local := h2
  have k2 : env.blockKind = .function := by
    unfold Env.blockKind
    rw [h1]
    rfl
  unfold swapsWith
  simp only [k2, k1, h4, Expr.pos, h3]
  rfl
theorem ps_setDc {i : Nat} {y : Str} {py : Pos} {kx vx tg iter : Expr} {ifs : List Expr} {scope : Scope} {own : List (Str × Nat)} {pos spos : Pos} {wi : TI} {g : TG} {tt : TT} {tk tv : TE} (calm : X.calm = true) (nd : X.N.Nodup) (hy : X.N[i]? = some y) (loc : X.env.scope.names.lookup y = some .local)
    (sw : swapsWith (.DictComp kx vx [⟨tg, iter, ifs, 0⟩] scope pos) (some (.Name y py)) spos.line X.env = pure true) (hi : PI X tg iter wi) (ok : BlkOk X.N X.env.scope scope own)
    (hg : ∀ (s : Shared) (H : Hp) (C : Addr) (cl : List (Str × Addr)) (fp : List Addr), PG (X.blk s H scope (compEnvC scope cl C X.env) fp) tg g)
    (ht : ∀ (s : Shared) (H : Hp) (C : Addr) (cl : List (Str × Addr)) (fp : List Addr), PTs (X.blk s H scope (compEnvC scope cl C X.env) fp) ifs tt)
    (hk : ∀ (s : Shared) (H : Hp) (C : Addr) (cl : List (Str × Addr)) (fp : List Addr), PE (X.blk s H scope (compEnvC scope cl C X.env) fp) kx tk)
    (hv : ∀ (s : Shared) (H : Hp) (C : Addr) (cl : List (Str × Addr)) (fp : List Addr), PE (X.blk s H scope (compEnvC scope cl C X.env) fp) vx tv) (hs : ∀ x, foldedSetIterable iter X.env x = pure x := by intro _; rfl) :
    PS X (.Assign [.Name y py] (.DictComp kx vx [⟨tg, iter, ifs, 0⟩] scope pos) spos) (tAsg (tDc wi g tt tk tv (own.map (·.2))) (gName i)) := by
  refine ⟨fun pins s σ H D I h => ?_⟩
  rw [exec_Assign_Name_used _ _ _ _ sw]
  refine wpAny_bind (wpAny_standAt (wpAny_bind ?_))
  show wpAny _ X.A (do let _ ← comprehension (.DictComp kx vx [⟨tg, iter, ifs, 0⟩] scope pos) scope X.env (firstIterPos [⟨tg, iter, ifs, 0⟩] pos) newDict false (eval iter X.env) (some (assign (.Name y py) X.env))) _ _ s
  have h' : tDc wi g tt tk tv (own.map (·.2)) σ H (fun x H1 => gName i x σ H1 D.nx) := h
  refine wpAny_bind (thn (dc_core (Qf := fun _ s' => SP X pins D .next s') calm nd I hi ok hg ht hk hv hs h' fun L C s' m H' I' q ns f => ?_) fun _ s' z => wpAny_pure (wpAny_pure z))
  show wpAny _ _ (assign (.Name y py) X.env (.ref L)) _ _ _
  refine wpAny_assign_Name (store_ok2 (v := V.ref L) I' nd hy (.inl loc) rfl (fun s2 I2 at2 => ?_) (.inr loc))
  obtain ⟨a, sb, ha⟩ := at2
  obtain ⟨f0, f1, f2, f3, f4, f5⟩ := f
  have ne : C ≠ a := by
    rcases ha with z | z
    · exact fun e => f1 (e.trans z)
    · exact fun e => f4 y a z e.symm
  exact ⟨m, ns.sameBut sb ne, fun h3 sb3 => ⟨_, H', I2.turned (t' := s2.toks) (fun b o hb e => (sb3.2 b hb).trans e) f0 f1 f3 f4 f5, q⟩⟩
end
theorem r_enumS {σ : L2.St} {H : Hp} {ta : TA} {R : It → Hp → Prop} (q : ta σ H fun vs H1 => ∃ z, vs = [.str z] ∧ R (KT.ItES z) H1) : KT.iEnumS ta σ H R := q
theorem r_enumT {K : PySem.W.Frag} {σ : L2.St} {H : Hp} {ta : TA} {R : It → Hp → Prop} (q : ta σ H fun vs H1 => ∃ a xs, vs = [.ref a] ∧ SqT K H1 a xs ∧ R (KT.ItET K a) H1) : KT.iEnumT K ta σ H R := q
theorem r_gif {σ : L2.St} {H : Hp} {D : GEnds} {ys : List V} {tc : TT} {t1 t2 : TGn} (q : tc σ H fun b H1 => if b = true then t1 D ys σ H1 else t2 D ys σ H1) : KGen.tGIf tc t1 t2 D ys σ H := q
theorem r_gfor {σ : L2.St} {H : Hp} {D : GEnds} {ys : List V} {wi : TI} {g : TG} {tb : TGn} (q : wi σ H fun J H1 => ∃ W : Nat → Nat → List V → L2.St → Hp → Prop, (∃ m, W 0 m ys σ H1) ∧ ∀ i m ys σ H, W i m ys σ H →
  (J.stop i H ∧ D.nx ys σ H) ∨ (J.go i H ∧ ∃ N : List V → L2.St → Hp → Prop, (∀ ys' σ' H', N ys' σ' H' → ∃ m', m' < m ∧ W (i + 1) m' ys' σ' H') ∧ ∀ x H', J.yld i H x H' → g x σ H' fun σ2 H2 => tb { D with nx := N, ct := N, bk := D.nx } ys σ2 H2)) : KGen.tGFor wi g tb D ys σ H := q
theorem r_gthen {σ : L2.St} {H : Hp} {D : GEnds} {ys : List V} {t u : TGn} (q : t { D with nx := fun ys' σ' H' => u D ys' σ' H' } ys σ H) : tGThen t u D ys σ H := q
theorem r_gyield {σ : L2.St} {H : Hp} {D : GEnds} {ys : List V} {te : TE} (h : ys.length < sizeLine) (q : te σ H fun x H1 => D.nx (ys ++ [x]) σ H1) : tGYield te D ys σ H := ⟨h, q⟩
theorem r_g0 {σ : L2.St} {H : Hp} {D : GEnds} {ys : List V} (q : D.nx ys σ H) : tG0 D ys σ H := q
end KU

/-! KV: data that is small enough to be shown by repr; what of a pen is kept; comprehensions that draw. -/
namespace KV
open PySem PySem.Spec PyProof.Rows L2 KB KG KO
/-- may be shown: at most n signs, at most k deep -/
structure Sm (n k : Nat) (d : PyData) : Prop where
  ok : d.showable = true
  nod : d.hasDict = false
  deep : d.depth ≤ k
  len : d.shown.length ≤ n
theorem Sm.mono {n k n' k' : Nat} {d : PyData} (h : Sm n k d) (a : n ≤ n') (b : k ≤ k') : Sm n' k' d := ⟨h.ok, h.nod, Nat.le_trans h.deep b, Nat.le_trans h.len a⟩
theorem sm_all {n k : Nat} : ∀ xs : List PyData, (∀ x ∈ xs, Sm n k x) → PyData.showableAll xs = true ∧ PyData.hasDictAll xs = false ∧ PyData.depthAll xs ≤ k ∧ ((PyData.shownAll xs).map (·.length)).sum ≤ xs.length * n
  | [], _ => ⟨rfl, rfl, Nat.zero_le _, by simp [PyData.shownAll]⟩
  | x :: xs, h => by
    obtain ⟨a, b, c, d⟩ := sm_all xs fun y m => h y (List.mem_cons_of_mem _ m)
    have z := h x List.mem_cons_self
    refine ⟨by simp only [PyData.showableAll, z.ok, a, Bool.and_self], by simp only [PyData.hasDictAll, z.nod, b, Bool.or_self], ?_, ?_⟩
    · simp only [PyData.depthAll]
      exact Nat.max_le.mpr ⟨z.deep, c⟩
    · simp only [PyData.shownAll, List.map_cons, List.sum_cons, List.length_cons, Nat.succ_mul]
      have := z.len
      omega
theorem Sm.tuple {n k : Nat} {xs : List PyData} (h : ∀ x ∈ xs, Sm n k x) : Sm (xs.length * (n + 2) + 3) (k + 1) (.tuple xs) := by
  obtain ⟨a, b, c, d⟩ := sm_all xs h
  refine ⟨by simpa only [PyData.showable] using a, by simpa only [PyData.hasDict] using b, by simp only [PyData.depth]; omega, ?_⟩
  have l := tupleText_len_le (PyData.shownAll xs)
  rw [PyData.shownAll_length] at l
  simp only [PyData.shown]
  rw [Nat.mul_add]
  omega
theorem Sm.list {n k : Nat} {xs : List PyData} (h : ∀ x ∈ xs, Sm n k x) : Sm (xs.length * (n + 2) + 3) (k + 1) (.list xs) := by
  obtain ⟨a, b, c, d⟩ := sm_all xs h
  refine ⟨by simpa only [PyData.showable] using a, by simpa only [PyData.hasDict] using b, by simp only [PyData.depth]; omega, ?_⟩
  have l := listText_len_le (PyData.shownAll xs)
  rw [PyData.shownAll_length] at l
  simp only [PyData.shown]
  rw [Nat.mul_add]
  omega
theorem Sm.int {i : Int} (h : i.natAbs < 10 ^ 12) : Sm 13 0 (.int i) := by
  refine ⟨?_, rfl, Nat.le_refl _, PyData.shown_int_le h⟩
  simp only [PyData.showable]
  refine decide_eq_true ?_
  by_cases z : i.natAbs = 0
  · rw [z]; decide
  · exact (Nat.log2_lt z).mpr (Nat.lt_of_lt_of_le h (by decide +kernel))
theorem Sm.big {i : Int} (h : i.natAbs.log2 < 1920) : Sm 1921 0 (.int i) := by
  refine ⟨?_, rfl, Nat.le_refl _, KBL.num_len h⟩
  simp only [PyData.showable]
  exact decide_eq_true h
theorem Sm.bool {b : Bool} : Sm 5 0 (.bool b) := by cases b <;> exact ⟨rfl, rfl, Nat.le_refl _, by decide +kernel⟩
theorem Sm.none : Sm 4 0 .none := ⟨rfl, rfl, Nat.le_refl _, by decide +kernel⟩
theorem Sm.str {z : Str} {n : Nat} (h : (reprText z).length ≤ n) : Sm n 0 (.str z) := ⟨rfl, rfl, Nat.le_refl _, h⟩
theorem r_reprS {K : PySem.W.Frag} {H : Hp} {Q : VK} {v : V} {d : PyData} {n k : Nat} (dp : Dp K H v d) (f : Sm n k d) (hk : k ≤ 60) (hn : n ≤ 1000000) (q : Q (.str d.shown) H) : KG.rRepr K [v] H Q :=
  ⟨v, d, rfl, dp, f.ok, f.nod, Nat.le_trans f.deep hk, Nat.le_trans f.len (Nat.le_trans hn (by decide)), q⟩
/-! ### the pen -/
/-- the pen: its cells, the next index, what is left; room for k draws more -/
def PenC (H : Hp) (p c : Addr) (k : Nat) : Prop := ∃ (ns : List Int) (at_ : Nat) (left : Int),
  H p = some (.lst [.ref c, .int at_, .int left]) ∧ H c = some (.lst (ns.map V.int)) ∧ p ≠ c ∧ ns.length ≤ 63 ∧ at_ + k ≤ 100000
def Keep (p : Addr) (H H' : Hp) : Prop := ∀ b o, H b = some o → b ≠ p → H' b = some o
theorem PenC.mono {H : Hp} {p c : Addr} {j k : Nat} (h : PenC H p c k) (e : j ≤ k) : PenC H p c j := by
  obtain ⟨ns, at_, left, h1, h2, h3, h4, h5⟩ := h
  exact ⟨ns, at_, left, h1, h2, h3, h4, by omega⟩
theorem PenC.up {H H' : Hp} {p c : Addr} {k : Nat} (h : PenC H p c k) (s : Same H H') : PenC H' p c k := by
  obtain ⟨ns, at_, left, h1, h2, h3, h4, h5⟩ := h
  exact ⟨ns, at_, left, s _ _ h1, s _ _ h2, h3, h4, h5⟩
theorem PenC.ne {H : Hp} {p c q : Addr} {k : Nat} (h : PenC H p c k) (n : H q = none) : q ≠ p := by
  obtain ⟨ns, at_, left, h1, h2, h3, h4, h5⟩ := h
  exact (ne_of_none h1 n).symm
theorem PenC.nec {H : Hp} {p c q : Addr} {k : Nat} (h : PenC H p c k) (n : H q = none) : q ≠ c := by
  obtain ⟨ns, at_, left, h1, h2, h3, h4, h5⟩ := h
  exact (ne_of_none h2 n).symm
theorem PenC.keep {H H' : Hp} {p c q : Addr} {k : Nat} (h : PenC H p c k) (s : Keep q H H') (n1 : q ≠ p) (n2 : q ≠ c) : PenC H' p c k := by
  obtain ⟨ns, at_, left, h1, h2, h3, h4, h5⟩ := h
  exact ⟨ns, at_, left, s _ _ h1 n1.symm, s _ _ h2 n2.symm, h3, h4, h5⟩
theorem PenC.lst {H : Hp} {p c : Addr} {k : Nat} (h : PenC H p c k) : ∃ xs, H p = some (.lst xs) := by
  obtain ⟨ns, at_, left, h1, _⟩ := h
  exact ⟨_, h1⟩
theorem PenC.not {H : Hp} {p c b : Addr} {k : Nat} {o : HO} (h : PenC H p c k) (e : H b = some o) (n : ∀ xs, o ≠ .lst xs) : b ≠ p := by
  obtain ⟨xs, h1⟩ := h.lst
  intro z
  rw [z, h1] at e
  exact n xs (Option.some.inj e).symm
def spPen (K : PySem.W.Frag) : Sp := fun vs H Q _ => ∃ (a : Addr) (ns : List Int), vs = [.ref a] ∧ SqL K H a (ns.map V.int) ∧ ns.length ≤ 63 ∧
  ∀ H' p c, Same H H' → H p = none → H c = none → PenC H' p c 100000 → Q (.ref p) H'
def spDraw : Sp := fun vs H Q _ => ∃ (p c : Addr) (many : Int) (k : Nat), vs = [.ref p, .int many] ∧ 0 < many ∧ many < 1000000000 ∧ PenC H p c (k + 1) ∧
  ∀ (r : Int) H', 0 ≤ r → r < many → PenC H' p c k → Keep p H H' → Q (.int r) H'
theorem Keep.tr {p : Addr} {H1 H2 H3 : Hp} (a : Keep p H1 H2) (b : Keep p H2 H3) : Keep p H1 H3 := fun x o e n => b x o (a x o e n) n
theorem Keep.same {p : Addr} {H1 H2 : Hp} (a : Same H1 H2) : Keep p H1 H2 := fun x o e n => a x o e
theorem Keep.refl {p : Addr} {H : Hp} : Keep p H H := fun _ _ e _ => e
open KD
/-- a draw keeps all but lists -/
theorem Keep.sn {p c : Addr} {k : Nat} {H H' : Hp} (s : Keep p H H') (pn : PenC H p c k) : SameN H H' := fun a o e n => s a o e (pn.not e n)
theorem SameN.refl {H : Hp} : SameN H H := fun _ _ e _ => e
theorem SameN.lset {H : Hp} {D : Addr} {xs ys : List V} (h : H D = some (.lst xs)) : SameN H (upd H D (.lst ys)) := fun a o e n => by
  rw [upd_ne (fun z => n xs (by rw [z, h] at e; exact (Option.some.inj e).symm))]
  exact e
theorem SameN.seqT {K : PySem.W.Frag} {H H' : Hp} {a : Addr} {xs : List V} (s : SameN H H') (h : SqT K H a xs) : SqT K H' a xs := by
  rcases h with (h | ⟨o, h⟩) | h
  · exact .inl (.inl (s.tup h))
  · exact .inl (.inr ⟨o, s a _ h fun _ z => by cases z⟩)
  · exact .inr h
theorem Keep.mut {p D : Addr} {H1 H : Hp} {o : HO} (s : Keep p H1 H) (hD : H1 D = none) : Keep p H1 (upd H D o) := fun b o e n => by
  rw [upd_ne (ne_of_none e hD)]
  exact s b o e n
theorem PenC.mut {H : Hp} {p c D : Addr} {k : Nat} {o : HO} (h : PenC H p c k) (n1 : D ≠ p) (n2 : D ≠ c) : PenC (upd H D o) p c k := by
  obtain ⟨ns, at_, left, h1, h2, h3, h4, h5⟩ := h
  exact ⟨ns, at_, left, by rw [upd_ne n1.symm]; exact h1, by rw [upd_ne n2.symm]; exact h2, h3, h4, h5⟩
/-- a comprehension that draws: Kr i: the draws that are left ahead of the i-th element -/
theorem lc_pen {J : It} {n : Nat} {G : Hp → Prop} {Y : Nat → Hp → V → Hp → Prop} (wk : Walk J n G Y) {g : TG} {tt : TT} {te : TE} {vs : List Nat} {σ : L2.St} {H1 : Hp} {Q : VK} {pen c : Addr} (R : Nat → V → Hp → Prop) (Kr : Nat → Nat) (hn : n ≤ 10000) (pn : PenC H1 pen c (Kr 0))
    (up : ∀ i v H H', R i v H → SameN H H' → R i v H') (hG : ∀ H', Keep pen H1 H' → G H')
    (hs : ∀ i x H H' (N : V → Hp → Prop) (B : Hp → Prop), i < n → Keep pen H1 H → PenC H pen c (Kr i) → Y i H x H' → (∀ v H2, Keep pen H H2 → PenC H2 pen c (Kr (i + 1)) → R i v H2 → N v H2) → g x (wipe σ vs) H' fun σ2 H2 => wipe σ2 vs = wipe σ vs ∧ tt σ2 H2 fun b H3 => if b = true then te σ2 H3 N else B H3)
    (hd : ∀ D H' (ys : List V), H1 D = none → Keep pen H1 H' → PenC H' pen c (Kr n) → H' D = some (.lst ys) → ys.length = n → (∀ i v, ys[i]? = some v → R i v H') → Q (.ref D) H') :
    LcW J g tt te vs σ H1 Q := by
  intro D hD
  have dp := pn.ne hD
  have dc := pn.nec hD
  refine lc_it wk (Qd := fun H => Q (.ref D) H) (fun i H => Keep pen H1 H ∧ PenC H pen c (Kr i) ∧ ∃ ys : List V, H D = some (.lst ys) ∧ ys.length = i ∧ ∀ j v, ys[j]? = some v → R j v H) ⟨Keep.same (same_new hD), pn.up (same_new hD), [], upd_same, rfl, fun j v e => by simp at e⟩ (fun i H _ p => hG H p.1) (fun i x H H' hi p y => ?_) (fun H p => ?_)
  · obtain ⟨sm, pi, ys, hy, hl, hR⟩ := p
    refine hs i x H H' _ _ hi sm pi y (fun v H2 k2 p2 r => ?_)
    have e2 := k2 _ _ hy dp
    refine ⟨ys, e2, small1000' (by omega), (sm.tr k2).mut hD, p2.mut dp dc, ys ++ [v], upd_same, by simp [hl], fun j w e => ?_⟩
    by_cases hj : j < ys.length
    · rw [List.getElem?_append_left hj] at e
      exact up _ _ _ _ (hR j w e) ((k2.sn pi).trans (SameN.lset e2))
    · rw [List.getElem?_append_right (by omega)] at e
      have h0 : j - ys.length = 0 := by
        cases z : j - ys.length with
        | zero => rfl
        | succ m => rw [z] at e; simp at e
      rw [h0] at e
      have ew : v = w := Option.some.inj e
      subst ew
      have ej : j = i := by omega
      subst ej
      exact up _ _ _ _ r (SameN.lset e2)
  · obtain ⟨sm, pi, ys, hy, hl, hR⟩ := p
    exact hd D H ys hD sm pi hy hl hR
theorem walk_zipT {K : PySem.W.Frag} {a b : Addr} {xs ys : List V} {n : Nat} (hn : n = min xs.length ys.length) : Walk (RZ.ItzT K a b) n (fun H => SqT K H a xs ∧ SqT K H b ys) (YPair (fun i => xs[i]?) (fun i => ys[i]?)) := by
  subst hn
  refine ⟨fun i _ hi q => ?_, fun _ q => ⟨xs, ys, q.1, q.2, by omega⟩, fun i H v H' _ q y => ?_⟩
  · have h1 : i < xs.length := by omega
    have h2 : i < ys.length := by omega
    exact ⟨xs, ys, xs[i], ys[i], q.1, q.2, by simp [h1], by simp [h2]⟩
  · obtain ⟨T, x, z, h1, h2, h3, h4, h5⟩ := y
    exact ⟨T, x, z, h1, h2, h3, h4 xs q.1, h5 ys q.2⟩
/-- f(e, ..) where the keyword-only parameters lack: their defaults -/
theorem kbn_def {K : PySem.W.Frag} {x qual : Str} {params : Arguments} {body : List Stmt} {scope : Scope} {kws : List (Str × V)} {f : Addr} {fd : FuncData} {ps : List Str} (F : FunD K x qual params body scope [] kws f fd) (n : Nat) (hk : kws ≠ []) (hn : n + kws.length = ps.length)
    (h : ∀ (D : Addr) (doc pm : Value) (an : Option Addr) (cdv ct : Value) (us ks : List Value), us.length = n → ks.length = kws.length →
      KwChain D ((kws.map (·.1)).zip ks) (bindArgs (PySem.W.fnOf x qual params body scope .none (.ref D) doc pm an cdv ct) ⟨us, []⟩) (ps.zip (us ++ ks))) : ∃ gg : List Value → List Value → List Value, KBn K fd ps n [] gg (fun vs _ => vs ++ kws.map (·.2)) := by
  obtain ⟨ds, rd, bd⟩ := F.binds0 n hk hn h
  have ld : ds.length = kws.length := by have := rd.length; simpa using this.symm
  refine ⟨fun us _ => us ++ ds, fun s us ws X l1 l2 => ?_, fun r1 _ => r1.append rd⟩
  exact bd s us X (by rw [List.length_append]; omega)
theorem r_zipA {K : PySem.W.Frag} {σ : L2.St} {H : Hp} {ta : TA} {R : It → Hp → Prop} (q : ta σ H fun vs H1 => ∃ a b xs ys, vs = [.ref a, .ref b] ∧ ((SqL K H1 a xs ∧ SqL K H1 b ys ∧ R (Itz K a b) H1) ∨ (SqT K H1 a xs ∧ SqT K H1 b ys ∧ R (RZ.ItzT K a b) H1))) : RZ.iZipA K ta σ H R := q
theorem atI_mem {α : Type} {xs : List α} {r : Int} (h0 : 0 ≤ r) (h1 : r < (xs.length : Int)) : ∃ x ∈ xs, atI xs r = some x := by
  obtain ⟨n, rfl⟩ : ∃ n : Nat, r = (n : Int) := ⟨r.toNat, by omega⟩
  have hl : n < xs.length := by omega
  exact ⟨xs[n], List.getElem_mem hl, atI_nat (by simp [hl])⟩
/-- what all elements are, as one list -/
theorem choose_list {α : Type} {f : α → V} {Pr : Nat → α → Prop} : ∀ (ys : List V), (∀ (i : Nat) (v : V), ys[i]? = some v → ∃ a, Pr i a ∧ v = f a) → ∃ as : List α, ys = as.map f ∧ as.length = ys.length ∧ ∀ (i : Nat) (a : α), as[i]? = some a → Pr i a
  | ys, h => by
    induction ys generalizing Pr with
    | nil => exact ⟨[], rfl, rfl, fun i a e => by simp at e⟩
    | cons y ys ih =>
      obtain ⟨a, pa, rfl⟩ := h 0 y rfl
      obtain ⟨as, rfl, l, q⟩ := ih (Pr := fun i a => Pr (i + 1) a) fun i v e => h (i + 1) v e
      refine ⟨a :: as, rfl, by simp, fun i b e => ?_⟩
      cases i with
      | zero => cases e; exact pa
      | succ i => exact q i b e
def sign (c : Nat) : Str := ⟨#[c]⟩
theorem str_ext {a b : Str} (h : a.cps.toList = b.cps.toList) : a = b := by
  cases a; cases b
  congr 1
  exact Array.toList_inj.mp h
theorem append_toList (a b : Str) : (a ++ b).cps.toList = a.cps.toList ++ b.cps.toList := Array.toList_append
theorem join_signs : ∀ cs : List Nat, (Str.join ⟨#[]⟩ (cs.map sign)).cps.toList = cs
  | [] => rfl
  | [c] => rfl
  | c :: d :: r => by
    show (sign c ++ (⟨#[]⟩ : Str) ++ Str.join ⟨#[]⟩ ((d :: r).map sign)).cps.toList = c :: d :: r
    rw [append_toList, append_toList, join_signs (d :: r)]
    rfl
theorem sum_signs (cs : List Nat) : ((cs.map sign).map (·.length)).sum = cs.length := by
  induction cs with
  | nil => rfl
  | cons c r ih =>
    rw [List.map_cons, List.map_cons, List.sum_cons, ih, List.length_cons]
    show 1 + r.length = _
    omega
end KV

/-! KW: o op= v by an own operator without an in-place form; ~o; a property read. -/
namespace KW
open PySem PySem.Spec PyProof.Rows L2 KB KG KO KY KR
section
variable {prog : Program} {w : World} {A : Around} {E : Value → Shared → Prop} {s : Shared} {K : PySem.W.Frag} {x C L g g2 : Addr} {hb : Heap} {m : Str → Option Value} {ox : Obj} {od : Option Obj} {T : String} {nm : String}
open PySem.W in
theorem fillsI_no {M : Model} {h : Heap} {cd : ClassData} {add : Bool} (X : K.In h) (hc : clsIn K C = some cd) (hm : cd.mro = [.ref C, .type "object"]) (h1 : findIn K (.ref C) (dunderI nm) = some none) (h2 : findIn K (.type "object") (dunderI nm) = some none) : Looks M h (fillsInplaceSlot (.ref C) nm add) false := by
  intro A Q E s k q
  have Lm : Looks M h (mroOf (.ref C)) cd.mro := (looks_clsIn X hc).andThen (f := fun cd => pure cd.mro) .now
  have Lm' := Lm.keeps k
  obtain ⟨hh, g, d, tt, os⟩ := s
  have X' : K.In hh := X.keeps k
  have L1 : Looks M hh (typeLookup (.ref C) (dunderI nm)) none := looks_findIn X' h1
  have L2 : Looks M hh (typeLookup (.type "object") (dunderI nm)) none := looks_findIn X' h2
  unfold fillsInplaceSlot
  refine wpAny_bind (Lm'.at ?_)
  rw [hm, List.anyM_cons]
  refine wpAny_bind ?_
  refine wpAny_bind (L1.at ?_)
  refine wpAny_pure ?_
  simp only [Bool.false_eq_true, if_false]
  rw [List.anyM_cons]
  refine wpAny_bind ?_
  refine wpAny_bind (L2.at ?_)
  refine wpAny_pure ?_
  simp only [Bool.false_eq_true, if_false]
  exact wpAny_pure q
open PySem.W in
/-- o op= v -/
theorem in_left {op : Operator} {v : Value} {fo ro rc : Option Value} {Z : Value → Shared → Prop} (F : Fr hb L s.heap m) (X0 : K.In hb) (I : InstAt s.heap x ox C od) (lv : Looks (model prog w) s.heap (typeOf v) (.type T)) (c1 : ∃ cd, clsIn K C = some cd ∧ cd.mro = [.ref C, .type "object"])
    (c2 : findIn K (.ref C) (PySem.dunder op.info.2) = some (some (.ref g))) (c3 : isFn K (.ref g) = true) (c4 : findIn K (.ref C) (dunderR op.info.2) = some rc) (c5 : rc = none ∨ ∃ z : Addr, rc = some (.ref z))
    (c6 : findIn K (.type T) (PySem.dunder op.info.2) = some fo) (c7 : findIn K (.type T) (dunderR op.info.2) = some ro) (c8 : subIn K (.type T) (.ref C) = some false)
    (c9 : findIn K (.ref C) (dunderI op.info.2) = some none) (c10 : findIn K (.type "object") (dunderI op.info.2) = some none)
    (go : wpAny (model prog w) A (call (.ref g) [.ref x, v]) (PySem.W.CmpBack Z) E s) : wpAny (model prog w) A (inplaceOp op (.ref x) v) Z E s := by
  have XK := X0.keeps F.keep
  obtain ⟨cd, hcd, hmro⟩ := c1
  rcases oi : op.info with ⟨sy, n1⟩
  rw [oi] at c2 c4 c6 c7 c9 c10
  dsimp only at c2 c4 c6 c7 c9 c10
  have once := ksp_try XK I c2 c3 go
  obtain ⟨sh, sg, sd, stk, sos⟩ := s
  have k1 : Looks (model prog w) sh (typeOf (.ref x)) (.ref C) := I.type
  have k2 : Looks (model prog w) sh (typeOf v) (.type T) := lv
  have k0 : Looks (model prog w) sh (fillsInplaceSlot (.ref C) n1 (op == .Add)) false := fillsI_no XK hcd hmro c9 c10
  have k3 : Looks (model prog w) sh (fillsNumberSlot (.ref C) n1) true := fills_K XK hcd hmro c2
  have k4 : Looks (model prog w) sh (fillsNumberSlot (.type T) n1) _ := ksp_fillsT XK c6 c7
  have k5 : Looks (model prog w) sh (isSubtype (.type T) (.ref C)) false := looks_subIn XK c8
  have k6 : Looks (model prog w) sh (numberSlotInPython (.ref C) n1) true := ksp_inPy XK c2 c4 c5
  have k7 : Looks (model prog w) sh (numberSlotInPython (.type T) n1) false := Looks.of_pure rfl
  have k8 : Looks (model prog w) sh (typeLookup (.type T) (dunderR n1)) ro := looks_findIn XK c7
  revert k4
  generalize ((fo.isSome && !isSeqSlot fo) || (ro.isSome && !isSeqSlot ro)) = rt
  intro k4
  have nq : (Value.ref C == Value.type T) = false := Bool.eq_false_iff.mpr fun q => by cases beq_iff_eq.mp q
  unfold inplaceOp
  simp only [oi]
  refine wpAny_holding ?_
  refine wpAny_bind (k1.at ?_)
  refine wpAny_bind (k0.at ?_)
  simp only [Bool.false_eq_true, if_false]
  refine wpAny_bind ?_
  unfold binaryOp1
  refine wpAny_bind (k1.at (wpAny_bind (k2.at (wpAny_bind (k3.at ?_)))))
  simp only [nq, Bool.false_eq_true, if_false]
  cases rt
  all_goals
    ksp_lk
    refine wpAny_mono once (fun r s' y => ?_) fun _ _ e => e
    obtain ⟨v', rfl, hq⟩ := y
    ksp_lk
    exact hq
end
section
variable {X : Cx} {pins : List (Addr × Obj)} {σ : L2.St} {H : Hp} {st : Shared}
structure OwnIn (P : Program) (w : World) (K : PySem.W.Frag) (mg : Str → Option Value) (base : Heap) (CX : CXT) (k : Nat) (C : Addr) (op : Operator) (ps : List Str) (sp : Sp) : Prop where
  ex : ∃ (g : Addr) (fd : FuncData) (rc fo ro : Option Value), (∃ cd, PySem.W.clsIn K C = some cd ∧ cd.mro = [.ref C, .type "object"]) ∧ PySem.W.findIn K (.ref C) (PySem.dunder op.info.2) = some (some (.ref g)) ∧ PySem.W.isFn K (.ref g) = true ∧ PySem.W.findIn K (.ref C) (dunderR op.info.2) = some rc ∧ (rc = none ∨ ∃ g : Addr, rc = some (.ref g)) ∧
    PySem.W.findIn K (.type "int") (PySem.dunder op.info.2) = some fo ∧ PySem.W.findIn K (.type "int") (dunderR op.info.2) = some ro ∧ PySem.W.subIn K (.type "int") (.ref C) = some false ∧ PySem.W.findIn K (.ref C) (dunderI op.info.2) = some none ∧ PySem.W.findIn K (.type "object") (dunderI op.info.2) = some none ∧
    FnOk P w K mg base CX k g fd ps sp ∧ Binds K fd ps []
/-- x op= v, v an int -/
def tipO (C : Addr) (sp : Sp) (E : XK) : TIp := fun x y H Q => ∃ (a dx : Addr) (fs : List (Str × V)) (i : Int), x = .ref a ∧ H a = some (.ins C dx fs) ∧ y = .int i ∧ sp [x, y] H Q E
theorem ip_own {CX : CXT} {E : XK} {C : Addr} {op : Operator} {ps : List Str} {sp : Sp} {n : Nat} (c : OwnIn X.prog X.w X.K X.mg X.base CX n C op ps sp) (room : Room n X.A) (pass : Passes CX X E) : PIp X op (tipO C sp E) := by
  obtain ⟨g, fd, rc, fo, ro, c1, c2, c3, c4, c5, c6, c7, c8, c9, c10, F, bind⟩ := c.ex
  intro pins st σ h x y v u Z inv rx ry pre
  obtain ⟨a, dx, fs, i, rfl, ha, rfl, z⟩ := pre
  obtain rfl : v = Value.ref a := rx
  obtain ⟨tk, rfl⟩ := (show ∃ t, u = Value.int i t from ry)
  obtain ⟨od, J⟩ := inst_of inv ha
  obtain ⟨m, hF⟩ := inv.fr
  refine in_left (T := "int") hF inv.ok.mod.kin J (PySem.W.Looks.of_pure rfl) c1 c2 c3 c4 c5 c6 c7 c8 c9 c10 ?_
  refine wpAny_mono (run_fn (us := [.ref a, .int i tk]) (vs := [.ref a, .int i]) F room bind .nil pass inv (.cons rfl (.cons ⟨tk, rfl⟩ .nil)) z) (fun w s2 r => ?_) fun _ _ z => z
  obtain ⟨z', h2, inv2, rz, qz⟩ := r
  exact SlX.cmpback rz ⟨z', h2, inv2, rz, qz⟩
structure OwnU (P : Program) (w : World) (K : PySem.W.Frag) (mg : Str → Option Value) (base : Heap) (CX : CXT) (k : Nat) (C : Addr) (ps : List Str) (sp : Sp) : Prop where
  ex : ∃ (g : Addr) (fd : FuncData), PySem.W.findIn K (.ref C) "__invert__" = some (some (.ref g)) ∧ PySem.W.isFn K (.ref g) = true ∧ FnOk P w K mg base CX k g fd ps sp ∧ Binds K fd ps []
def rUnO (C : Addr) (sp : Sp) (E : XK) : V → Hp → VK → Prop := fun x H Q => ∃ (a dx : Addr) (fs : List (Str × V)), x = .ref a ∧ H a = some (.ins C dx fs) ∧ sp [x] H Q E
theorem un_invO {CX : CXT} {E : XK} {C : Addr} {ps : List Str} {sp : Sp} {n : Nat} (c : OwnU X.prog X.w X.K X.mg X.base CX n C ps sp) (room : Room n X.A) (pass : Passes CX X E) : UnR X (unaryOp .Invert) (rUnO C sp E) := by
  obtain ⟨g, fd, c1, c2, F, bind⟩ := c.ex
  intro pins st σ h x v Z inv rx pre
  obtain ⟨a, dx, fs, rfl, ha, z⟩ := pre
  obtain rfl : v = Value.ref a := rx
  obtain ⟨od, J⟩ := inst_of inv ha
  obtain ⟨m, hF⟩ := inv.fr
  refine PySem.W.ksp_inv hF inv.ok.mod.kin J c1 c2 ?_
  exact run_fn (us := [.ref a]) (vs := [.ref a]) F room bind .nil pass inv (.cons rfl .nil) z
structure OwnP (P : Program) (w : World) (K : PySem.W.Frag) (mg : Str → Option Value) (base : Heap) (k : Nat) (C : Addr) (f : Str) (ps : List Str) (sp : Sp) : Prop where
  ex : ∃ (p g : Addr) (fd : FuncData), PropOf K C f p g ∧ FnOk P w K mg base CX0 k g fd ps sp ∧ Binds K fd ps []
  cl : Cls K C
theorem pe_propO {C : Addr} {f : Str} {ps : List Str} {sp : Sp} {n : Nat} {e : Expr} {pos : Pos} {ta : TE} (c : OwnP X.prog X.w X.K X.mg X.base n C f ps sp) (he : PE X e ta) (room : Room (n + 1) X.A)
    (hab : attributeBase e f X.env (eval e X.env) = eval e X.env := by rfl) : PE X (.Attribute e f pos) (tProp C sp [] E0 ta) := by
  obtain ⟨p, g, fd, hp, F, hb⟩ := c.ex
  exact pe_prop he c.cl hp F room hb .nil pass0 hab
theorem r_prop {σ : L2.St} {H : Hp} {Q : VK} {C : Addr} {sp : Sp} {E : XK} {ta : TE} (q : ta σ H fun x H1 => ∃ a dx fs, x = .ref a ∧ H1 a = some (.ins C dx fs) ∧ sp [.ref a] H1 Q E) : tProp C sp [] E ta σ H Q := q
end
/-! ### lists of pairs of ints -/
def PairsAt (H : Hp) (ys : List V) (ps : List (Int × Int)) : Prop := ys.length = ps.length ∧ ∀ (i : Nat) (v : V) (p : Int × Int), ys[i]? = some v → ps[i]? = some p → ∃ a, v = .ref a ∧ H a = some (.tup [.int p.1, .int p.2])
theorem PairsAt.sn {H H' : Hp} {ys : List V} {ps : List (Int × Int)} (h : PairsAt H ys ps) (s : KD.SameN H H') : PairsAt H' ys ps := ⟨h.1, fun i v p h1 h2 => by
  obtain ⟨a, e1, e2⟩ := h.2 i v p h1 h2
  exact ⟨a, e1, s.tup e2⟩⟩
theorem PairsAt.up {H H' : Hp} {ys : List V} {ps : List (Int × Int)} (h : PairsAt H ys ps) (s : Same H H') : PairsAt H' ys ps := h.sn (KD.SameN.of s)
theorem PairsAt.nil {H : Hp} : PairsAt H [] [] := ⟨rfl, fun i v p h1 _ => by simp at h1⟩
theorem PairsAt.append {H : Hp} {ys zs : List V} {ps qs : List (Int × Int)} (h : PairsAt H ys ps) (g : PairsAt H zs qs) : PairsAt H (ys ++ zs) (ps ++ qs) := by
  refine ⟨by simp [h.1, g.1], fun i v p h1 h2 => ?_⟩
  by_cases lt : i < ys.length
  · rw [List.getElem?_append_left lt] at h1
    rw [List.getElem?_append_left (by rw [← h.1]; exact lt)] at h2
    exact h.2 i v p h1 h2
  · rw [List.getElem?_append_right (by omega)] at h1
    rw [List.getElem?_append_right (by rw [← h.1]; omega), ← h.1] at h2
    exact g.2 _ v p h1 h2
theorem PairsAt.one {H : Hp} {a : Addr} {p : Int × Int} (e : H a = some (.tup [.int p.1, .int p.2])) : PairsAt H [.ref a] [p] := by
  refine ⟨rfl, fun i v q h1 h2 => ?_⟩
  cases i with
  | zero => cases h1; cases h2; exact ⟨a, rfl, e⟩
  | succ i => simp at h1
theorem PairsAt.snoc {H : Hp} {ys : List V} {ps : List (Int × Int)} {a : Addr} {p : Int × Int} (h : PairsAt H ys ps) (e : H a = some (.tup [.int p.1, .int p.2])) : PairsAt H (ys ++ [.ref a]) (ps ++ [p]) := h.append (.one e)
theorem PairsAt.tail {H : Hp} {y : V} {p : Int × Int} {ys : List V} {ps : List (Int × Int)} (h : PairsAt H (y :: ys) (p :: ps)) : PairsAt H ys ps := ⟨by simpa using h.1, fun i v q h1 h2 => h.2 (i + 1) v q h1 h2⟩
def dPair (p : Int × Int) : PyData := .tuple [.int p.1, .int p.2]
def dPairs (ps : List (Int × Int)) : PyData := .list (ps.map dPair)
theorem PairsAt.dp {K : PySem.W.Frag} {H : Hp} : ∀ {ys : List V} {ps : List (Int × Int)}, PairsAt H ys ps → DpAll K H ys (ps.map dPair)
  | [], [], _ => .nil
  | [], _ :: _, h => by have := h.1; simp at this
  | _ :: _, [], h => by have := h.1; simp at this
  | y :: ys, p :: ps, h => by
    obtain ⟨a, rfl, e⟩ := h.2 0 y p rfl rfl
    exact .cons (.tup (SqT.of e) (.cons (.int _) (.cons (.int _) .nil))) (PairsAt.dp h.tail)
theorem sm_pair {p : Int × Int} (h1 : p.1.natAbs < 10 ^ 12) (h2 : p.2.natAbs < 10 ^ 12) : KV.Sm 33 1 (dPair p) := by
  refine (KV.Sm.tuple (n := 13) (k := 0) (xs := [.int p.1, .int p.2]) fun y my => ?_).mono (by simp) (Nat.le_refl _)
  rcases List.mem_cons.mp my with rfl | my
  · exact KV.Sm.int h1
  · rw [List.mem_singleton.mp my]
    exact KV.Sm.int h2
theorem sm_pairs {ps : List (Int × Int)} (h : ∀ p ∈ ps, p.1.natAbs < 10 ^ 12 ∧ p.2.natAbs < 10 ^ 12) (l : ps.length ≤ 2000) : KV.Sm 70003 2 (dPairs ps) := by
  refine (KV.Sm.list (n := 33) (k := 1) (xs := ps.map dPair) fun x m => ?_).mono (by rw [List.length_map]; omega) (Nat.le_refl _)
  obtain ⟨p, hp, rfl⟩ := List.mem_map.mp m
  exact sm_pair (h p hp).1 (h p hp).2
/-- the pair that a value is -/
noncomputable def pairV (H : Hp) (v : V) : Int × Int := match v with
  | .ref a => match H a with
    | some (.tup [.int i, .int j]) => (i, j)
    | _ => (0, 0)
  | _ => (0, 0)
theorem pairV_at {H : Hp} {a : Addr} {p : Int × Int} (e : H a = some (.tup [.int p.1, .int p.2])) : pairV H (.ref a) = p := by
  simp only [pairV, e]
theorem PairsAt.map {H : Hp} : ∀ {ys : List V} {ps : List (Int × Int)}, PairsAt H ys ps → ys.map (pairV H) = ps ∧ ∀ y ∈ ys, ∃ t, y = .ref t ∧ H t = some (.tup [.int (pairV H y).1, .int (pairV H y).2])
  | [], [], _ => ⟨rfl, fun y m => (List.not_mem_nil m).elim⟩
  | [], _ :: _, h => by have := h.1; simp at this
  | _ :: _, [], h => by have := h.1; simp at this
  | y :: ys, p :: ps, h => by
    obtain ⟨a, rfl, e⟩ := h.2 0 y p rfl rfl
    obtain ⟨m1, m2⟩ := PairsAt.map h.tail
    have e2 := pairV_at e
    refine ⟨by rw [List.map_cons, e2, m1], fun z m => ?_⟩
    rcases List.mem_cons.mp m with rfl | m
    · exact ⟨a, rfl, by rw [e2]; exact e⟩
    · exact m2 z m
/-- sorted(xs) of pairs that ascend already -/
theorem r_sortedUp {K : PySem.W.Frag} {H : Hp} {Q : VK} {a : Addr} {xs : List V} {ps : List (Int × Int)} (sq : SqL K H a xs) (pa : PairsAt H xs ps) (asc : ps.Pairwise fun p q => p.1 < q.1) (q : ∀ p, H p = none → Q (.ref p) (upd H p (.lst xs))) : rSortedPO K [.ref a] H Q := by
  obtain ⟨m1, m2⟩ := pa.map
  refine ⟨a, xs, pairV H, rfl, sq, m2, fun ys p so st np => ?_⟩
  have asc2 : xs.Pairwise fun x y => (pairV H x).1 < (pairV H y).1 := by
    rw [← m1] at asc
    exact (List.pairwise_map (R := fun p q : Int × Int => p.1 < q.1)).mp asc
  have inj : ∀ x ∈ xs, ∀ y ∈ xs, (pairV H x).1 = (pairV H y).1 → x = y := by
    have key : ∀ l : List V, (l.Pairwise fun x y => (pairV H x).1 < (pairV H y).1) → ∀ x ∈ l, ∀ y ∈ l, (pairV H x).1 = (pairV H y).1 → x = y := by
      intro l
      induction l with
      | nil => intro _ x hx; exact (List.not_mem_nil hx).elim
      | cons z l ih =>
        intro pw x hx y hy e
        obtain ⟨p1, p2⟩ := List.pairwise_cons.mp pw
        rcases List.mem_cons.mp hx with rfl | hx2 <;> rcases List.mem_cons.mp hy with rfl | hy2
        · rfl
        · have := p1 y hy2; omega
        · have := p1 x hx2; omega
        · exact ih p2 x hx2 y hy2 e
    exact key xs asc2
  have le_no : ∀ {x y : V}, ltP (pairV H) y x = false → (pairV H x).1 ≤ (pairV H y).1 := fun {x y} h => by
    have z := SrtO.lexB_no.mp h
    omega
  have e : ys = xs := by
    refine List.Perm.eq_of_pairwise (le := fun x y => (pairV H x).1 ≤ (pairV H y).1) (fun x y hx hy h1 h2 => ?_) ?_ ?_ st.perm
    · exact inj x (st.perm.mem_iff.mp hx) y hy (by omega)
    · exact List.Pairwise.imp (fun {x y} h => le_no h) so
    · exact asc2.imp fun h => by omega
  rw [e]
  exact q p np
end KW

/-! KM: what blends do, operation by operation; the normal form read off the columns. -/
namespace KBL
open PySem
theorem ap_made (w : Nat) (s : Int) (m f v : Nat) : f ^^^ (keepN w s m &&& shN w v (shiftN w s m)) = ap w s m f v := ap_norm w s m f v
theorem src_lt {w : Nat} {s : Int} {k p : Nat} (h : w ≤ p) : src w s k p = false := by
  unfold src
  rw [decide_eq_false (by omega)]
  rfl
theorem keepN_idem (w : Nat) (s : Int) (m n : Nat) : keepN w (shiftN w s m) (keepN w s m &&& n) = keepN w s m &&& n := by
  by_cases h : keepN w s m = 0
  · rw [h, Nat.zero_and]
    unfold keepN
    rw [Nat.and_zero]
  · unfold shiftN
    rw [if_neg h]
    refine Nat.eq_of_testBit_eq fun p => ?_
    rw [bit_keep, Nat.testBit_and, bit_keep]
    unfold src
    rw [Nat.testBit_and, bit_keep]
    unfold src
    cases decide (p < w) <;> cases decide (s ≤ (p : Int)) <;> cases decide ((p : Int) - s < w) <;> cases m.testBit p <;> rfl
theorem and_keep (w : Nat) (s : Int) (m : Nat) : keepN w s m &&& onesN w = keepN w s m := by
  refine Nat.eq_of_testBit_eq fun p => ?_
  rw [Nat.testBit_and, show onesN w = 2 ^ w - 1 from rfl, Nat.testBit_two_pow_sub_one]
  by_cases h : p < w
  · rw [decide_eq_true h, Bool.and_true]
  · rw [bit_keep, src_lt (by omega)]
    rfl
theorem keepN_idem0 (w : Nat) (s : Int) (m : Nat) : keepN w (shiftN w s m) (keepN w s m) = keepN w s m := by
  have h := keepN_idem w s m (onesN w)
  rw [and_keep] at h
  exact h
theorem ap_form {w : Nat} {s : Int} {m k' f' v : Nat} (h : keepN w (shiftN w s m) k' = k') : ap w (shiftN w s m) k' f' v = f' ^^^ (k' &&& shN w v (shiftN w s m)) := by
  unfold ap
  rw [h]
theorem bits_ext {a b : Nat} (h : ∀ p, a.testBit p = b.testBit p) : a = b := Nat.eq_of_testBit_eq h
theorem ap_and (w : Nat) (s : Int) (m f n v : Nat) : ap w (shiftN w s m) (keepN w s m &&& n) (f &&& n) v = ap w s m f v &&& n := by
  rw [ap_form (keepN_idem w s m n), ← ap_made]
  refine bits_ext fun p => ?_
  simp only [Nat.testBit_xor, Nat.testBit_and]
  cases f.testBit p <;> cases n.testBit p <;> cases (keepN w s m).testBit p <;> cases (shN w v (shiftN w s m)).testBit p <;> rfl
theorem ap_or {w : Nat} {s : Int} {m f n v : Nat} : ap w (shiftN w s m) (keepN w s m &&& (onesN w ^^^ n)) (f ||| n) v = ap w s m f v ||| n := by
  rw [ap_form (keepN_idem w s m _), ← ap_made]
  refine bits_ext fun p => ?_
  simp only [Nat.testBit_xor, Nat.testBit_and, Nat.testBit_or]
  rw [show onesN w = 2 ^ w - 1 from rfl, Nat.testBit_two_pow_sub_one]
  by_cases h : p < w
  · rw [decide_eq_true h]
    cases f.testBit p <;> cases n.testBit p <;> cases (keepN w s m).testBit p <;> cases (shN w v (shiftN w s m)).testBit p <;> rfl
  · rw [bit_keep, src_lt (by omega)]
    simp
theorem ap_xor (w : Nat) (s : Int) (m f n v : Nat) : ap w (shiftN w s m) (keepN w s m) (f ^^^ n) v = ap w s m f v ^^^ n := by
  rw [ap_form (keepN_idem0 w s m), ← ap_made]
  refine bits_ext fun p => ?_
  simp only [Nat.testBit_xor, Nat.testBit_and]
  cases f.testBit p <;> cases n.testBit p <;> cases (keepN w s m).testBit p <;> cases (shN w v (shiftN w s m)).testBit p <;> rfl
theorem ap_begin {w : Nat} {s : Int} {m f v : Nat} (hv : v < 2 ^ w) : ap w s m f v = (shN w v s &&& m) ^^^ f := by
  refine bits_ext fun p => ?_
  rw [bit_ap hv, Nat.testBit_xor, Nat.testBit_and, bit_sh hv, Bool.xor_comm]
  congr 1
  unfold src
  by_cases h1 : p < w
  · by_cases h2 : s ≤ (p : Int)
    · rw [decide_eq_true h1, decide_eq_true h2]
      by_cases h3 : v.testBit ((p : Int) - s).toNat = true
      · have := bits_below hv h3
        rw [h3, decide_eq_true (show (p : Int) - s < w by omega)]
        cases m.testBit p <;> rfl
      · rw [Bool.eq_false_iff.mpr h3]
        cases m.testBit p <;> simp
    · rw [decide_eq_false h2]
      simp
  · rw [decide_eq_false h1]
    simp
/-- the shift behind a move -/
def movT (w : Nat) (s s' : Int) (k : Nat) : Int := if shN w k s' = 0 then 0 else s + s'
theorem ap_move {w : Nat} {s s' : Int} {m f v : Nat} (hf : f < 2 ^ w) (hv : v < 2 ^ w) : ap w (movT w (shiftN w s m) s' (keepN w s m)) (shN w (keepN w s m) s') (shN w f s') v = shN w (ap w s m f v) s' := by
  have hk := keep_lt w s m
  refine bits_ext fun p => ?_
  rw [bit_ap hv, bit_sh hf, bit_sh (ap_lt hf hv), bit_ap hv]
  by_cases h1 : p < w
  rotate_left
  · rw [src_lt (by omega), decide_eq_false h1]
    rfl
  by_cases h2 : s' ≤ (p : Int)
  rotate_left
  · rw [decide_eq_false h2]
    unfold src
    rw [bit_sh hk, decide_eq_false h2]
    simp
  rw [decide_eq_true h1, decide_eq_true h2, Bool.true_and, Bool.true_and]
  congr 1
  by_cases hz : src w s m ((p : Int) - s').toNat = true
  · have hb : (shN w (keepN w s m) s').testBit p = true := by
      rw [bit_sh hk, decide_eq_true h1, decide_eq_true h2, bit_keep, hz]
      rfl
    have n1 : shN w (keepN w s m) s' ≠ 0 := fun e => by rw [e, Nat.zero_testBit] at hb; cases hb
    have n2 : keepN w s m ≠ 0 := fun e => by
      have := bit_keep w s m ((p : Int) - s').toNat
      rw [hz, e, Nat.zero_testBit] at this
      cases this
    obtain ⟨g1, g2, g3⟩ := src_of hz
    unfold movT shiftN
    rw [if_neg n1, if_neg n2, hz, Bool.true_and]
    have e0 : ((p : Int) - (s + s')).toNat = ((((p : Int) - s').toNat : Int) - s).toNat := by omega
    rw [e0]
    unfold src
    rw [hb, decide_eq_true h1, decide_eq_true (show s + s' ≤ (p : Int) by omega), decide_eq_true (show (p : Int) - (s + s') < w by omega)]
    rfl
  · rw [Bool.eq_false_iff.mpr hz, Bool.false_and]
    have hb : (shN w (keepN w s m) s').testBit p = false := by
      rw [bit_sh hk, decide_eq_true h1, decide_eq_true h2, bit_keep, Bool.eq_false_iff.mpr hz]
      rfl
    unfold src
    rw [hb]
    simp
/-! ### the normal form, column by column -/
theorem column {w : Nat} {s : Int} {m f j : Nat} (hj : j < w) (p : Nat) : (ap w s m f (2 ^ j) ^^^ f).testBit p = (src w s m p && decide ((p : Int) - s = j)) := by
  rw [Nat.testBit_xor, bit_two hj]
  cases f.testBit p <;> cases (src w s m p && decide ((p : Int) - s = j)) <;> rfl
theorem range_next (P : Nat → Bool) (t : Nat) : ∀ n : Nat, (List.range n).filter (fun p => P p && decide (p < t + 1)) = (List.range n).filter (fun p => P p && decide (p < t)) ++ (if t < n ∧ P t = true then [t] else [])
  | 0 => by simp
  | n + 1 => by
    rw [List.range_succ, List.filter_append, List.filter_append, range_next P t n]
    by_cases h1 : t < n
    · have e1 : List.filter (fun p => P p && decide (p < t + 1)) [n] = [] := by
        rw [List.filter_cons, if_neg (by simp; omega)]; rfl
      have e2 : List.filter (fun p => P p && decide (p < t)) [n] = [] := by
        rw [List.filter_cons, if_neg (by simp; omega)]; rfl
      rw [e1, e2, List.append_nil, List.append_nil]
      by_cases h2 : P t = true
      · rw [if_pos ⟨h1, h2⟩, if_pos ⟨by omega, h2⟩]
      · rw [if_neg (fun z => h2 z.2), if_neg (fun z => h2 z.2)]
    · rw [if_neg (fun z => h1 z.1), List.append_nil]
      have e2 : List.filter (fun p => P p && decide (p < t)) [n] = if n < t ∧ P n = true then [n] else [] := by
        rw [List.filter_cons]
        by_cases z : n < t ∧ P n = true
        · rw [if_pos (by simp [z.1, z.2]), if_pos z]; rfl
        · rw [if_neg (by simp; intro a; have : ¬ n < t := fun b => z ⟨b, a⟩; omega), if_neg z]; rfl
      rw [e2]
      by_cases h3 : t = n
      · subst h3
        rw [if_neg (fun z => by omega), List.append_nil]
        congr 1
        rw [List.filter_cons]
        by_cases h4 : P t = true
        · rw [if_pos (by simp [h4]), if_pos ⟨by omega, h4⟩]; rfl
        · rw [if_neg (by simp [h4]), if_neg (fun z => h4 z.2)]; rfl
      · rw [if_neg (show ¬ (t < n + 1 ∧ P t = true) from fun z => by omega), List.append_nil]
        congr 1
        rw [List.filter_cons]
        by_cases h4 : n < t ∧ P n = true
        · rw [if_pos h4, if_pos (by simp [h4.2]; omega)]; rfl
        · rw [if_neg h4, if_neg (by simp; intro a; have : ¬ n < t := fun b => h4 ⟨b, a⟩; omega)]; rfl
/-- the sources, places ascending -/
def srcs (w : Nat) (s : Int) (m : Nat) : List (Int × Int) := ((List.range w).filter (src w s m)).map fun (p : Nat) => ((p : Int), (p : Int) - s)
def srcsTo (w : Nat) (s : Int) (m i : Nat) : List (Int × Int) := ((List.range w).filter fun p => src w s m p && decide ((p : Int) - s < i)).map fun (p : Nat) => ((p : Int), (p : Int) - s)
theorem srcsTo_zero (w : Nat) (s : Int) (m : Nat) : srcsTo w s m 0 = [] := by
  unfold srcsTo
  rw [List.map_eq_nil_iff, List.filter_eq_nil_iff]
  intro p _ h
  simp only [Bool.and_eq_true, decide_eq_true_eq] at h
  have := (src_of h.1)
  omega
theorem srcsTo_all (w : Nat) (s : Int) (m : Nat) : srcsTo w s m w = srcs w s m := by
  unfold srcsTo srcs
  congr 1
  refine List.filter_congr fun p _ => ?_
  by_cases h : src w s m p = true
  · have := src_of h
    rw [h, decide_eq_true (by omega)]
    rfl
  · rw [Bool.eq_false_iff.mpr h]
    rfl
theorem srcsTo_next {w : Nat} {s : Int} {m i p : Nat} (hp : (p : Int) - s = i) (h : src w s m p = true) : srcsTo w s m (i + 1) = srcsTo w s m i ++ [((p : Int), (i : Int))] := by
  have g := src_of h
  have e1 : srcsTo w s m (i + 1) = ((List.range w).filter fun q => src w s m q && decide (q < p + 1)).map fun (q : Nat) => ((q : Int), (q : Int) - s) := by
    unfold srcsTo
    congr 1
    refine List.filter_congr fun q _ => ?_
    congr 1
    exact decide_eq_decide.mpr (by omega)
  have e2 : srcsTo w s m i = ((List.range w).filter fun q => src w s m q && decide (q < p)).map fun (q : Nat) => ((q : Int), (q : Int) - s) := by
    unfold srcsTo
    congr 1
    refine List.filter_congr fun q _ => ?_
    congr 1
    exact decide_eq_decide.mpr (by omega)
  rw [e1, e2, range_next, if_pos ⟨g.1, h⟩, List.map_append, List.map_cons, List.map_nil, hp]
theorem srcsTo_same {w : Nat} {s : Int} {m i : Nat} (h : ∀ p, src w s m p = true → (p : Int) - s ≠ i) : srcsTo w s m (i + 1) = srcsTo w s m i := by
  unfold srcsTo
  congr 1
  refine List.filter_congr fun q _ => ?_
  by_cases z : src w s m q = true
  · have := h q z
    congr 1
    exact decide_eq_decide.mpr (by omega)
  · rw [Bool.eq_false_iff.mpr z]
    rfl
theorem srcs_asc (w : Nat) (s : Int) (m : Nat) : (srcs w s m).Pairwise fun p q => p.1 < q.1 := by
  unfold srcs
  rw [List.pairwise_map]
  refine List.Pairwise.filter _ ?_
  exact (List.pairwise_lt_range).imp fun h => by simpa using h
theorem srcs_len (w : Nat) (s : Int) (m : Nat) : (srcs w s m).length ≤ w := by
  unfold srcs
  rw [List.length_map]
  exact Nat.le_trans (List.length_filter_le _ _) (by simp)
theorem srcs_small {w : Nat} {s : Int} {m : Nat} (hw : w ≤ 32) : ∀ p ∈ srcs w s m, 0 ≤ p.1 ∧ p.1 < w ∧ 0 ≤ p.2 ∧ p.2 < w := by
  intro p hp
  obtain ⟨q, hq, rfl⟩ := List.mem_map.mp hp
  have := src_of (List.mem_filter.mp hq).2
  exact ⟨by omega, by omega, by omega, by omega⟩
/-- what the object yields: by its own keep and shift -/
def srcsK (w : Nat) (s : Int) (k : Nat) : List (Int × Int) := ((List.range w).filter (k.testBit ·)).map fun (p : Nat) => ((p : Int), (p : Int) - s)
theorem srcsK_made (w : Nat) (s : Int) (m : Nat) : srcsK w (shiftN w s m) (keepN w s m) = srcs w s m := by
  unfold srcsK srcs
  by_cases h : keepN w s m = 0
  · have e1 : (List.range w).filter ((keepN w s m).testBit ·) = [] := by
      rw [List.filter_eq_nil_iff]
      intro p _ z
      rw [h, Nat.zero_testBit] at z
      cases z
    have e2 : (List.range w).filter (src w s m) = [] := by
      rw [List.filter_eq_nil_iff]
      intro p _ z
      rw [← bit_keep, h, Nat.zero_testBit] at z
      cases z
    rw [e1, e2]
    rfl
  · unfold shiftN
    rw [if_neg h]
    congr 1
    exact List.filter_congr fun p _ => bit_keep w s m p
end KBL

/-! KN: methods of own classes that say super().m(..) at their own level (in a statement of the body, in an if, in a return). -/
namespace KN
open PySem PySem.Spec PyProof.Rows L2 KB KG KO
/-! ### binding by position -/
theorem lookup_nd {y : Str} {u : Value} : ∀ {l : List (Str × Value)}, (l.map (·.1)).Nodup → (y, u) ∈ l → l.lookup y = some u
  | [], _, m => by cases m
  | (k, v) :: l, nd, m => by
    obtain ⟨h1, h2⟩ := List.nodup_cons.mp nd
    rcases List.mem_cons.mp m with e | m
    · cases e
      simp [List.lookup]
    · have hk : (y == k) = false := by
        refine Bool.eq_false_iff.mpr fun z => h1 ?_
        rw [← beq_iff_eq.mp z]
        exact List.mem_map.mpr ⟨_, m, rfl⟩
      rw [List.lookup, hk]
      exact lookup_nd h2 m
theorem zip_fst : ∀ {ps : List Str} {us : List Value}, ps.length = us.length → (ps.zip us).map (·.1) = ps
  | [], [], _ => rfl
  | [], _ :: _, h => by simp at h
  | _ :: _, [], h => by simp at h
  | p :: ps, u :: us, h => by
    rw [List.zip_cons_cons, List.map_cons, zip_fst (by simpa using h)]
theorem zip_get {ps : List Str} {us : List Value} {i : Nat} {y : Str} {u : Value} (h1 : ps[i]? = some y) (h2 : us[i]? = some u) : (y, u) ∈ ps.zip us := by
  refine List.mem_of_getElem? (i := i) ?_
  rw [List.getElem?_zip_eq_some]
  exact ⟨h1, h2⟩
/-- a scope of such a def -/
structure SScope (N ps : List Str) (sc : Scope) : Prop where
  kind : sc.kind = .function
  co : sc.isCoroutine = false
  gen : sc.isGenerator = false
  nd : N.Nodup
  pre : N.take ps.length = ps
  par : ∀ x ∈ ps, sc.names.lookup x = some .local
  nocell : ∀ y ∈ sc.names, y.2 ≠ .cell
  nofree : ∀ y ∈ sc.names, y.2 = .free → y.1 = "__class__"
  sup : sc.names.lookup ("super" : Str) = some .globalImplicit
  cls : sc.names.lookup ("__class__" : Str) = some .free
theorem SScope.free {N ps : List Str} {sc : Scope} (S : SScope N ps sc) : ∀ y, sc.names.lookup y = some .free → y = "__class__" := fun y e => S.nofree (y, .free) (PySem.mem_of_lookup e) rfl
theorem inv_supN {CXx : CXT} {P : Program} {w : World} {K : PySem.W.Frag} {mg : Str → Option Value} {base : Heap} {N ps : List Str} {ql : Str} {sc : Scope} {f cda cc : Addr} {A : Around} {out : List Env} {st : Shared} {h : Hp} {W : XK} {us : List Value} {vs : List V} {h1 : Heap} {tk : Nat} {cl : Value} {cld : Option Addr} {csl : Array (Option Value)} {cv : Option Value}
    (S : SScope N ps sc) (e0 : Env0 P w K mg base A out st h) (hd : A.handled = none) (hl : vs.length = ps.length)
    (hc : K.lookup cc = some ⟨cl, cld, .cell cv, csl⟩) (hns : h1.Ns st.heap.objs.size (fun y => (ps.zip us).reverse.lookup y)) (kp : ∀ b o, st.heap.get? b = some o → h1.get? b = some o) (r : Vals vs us) :
    Inv (KX.supCx CXx P w K mg base N ql sc f cda cc A out st h W) [] (L2.start N vs) h { st with heap := h1, toks := tk } := by
  have noA : ∀ b : Addr, b ∉ (KX.supCx CXx P w K mg base N ql sc f cda cc A out st h W).ex := fun b z => absurd (show b ∈ ([] : List Addr) from z) (by simp)
  have ccb := e0.bs _ _ (e0.mod.kin _ _ hc)
  have hpl : ps.length ≤ N.length := by have := congrArg List.length S.pre; rw [List.length_take] at this; omega
  refine ⟨⟨e0.mod, S.kind, rfl, rfl, Nat.le_refl _, fun y z c a b => (KX.cls_only a).1.trans (KX.cls_only b).1.symm, fun y hy => ?_, fun y c z _ => ?_, fun _ => hd, Around.frames_deeper e0.frames, .inr ⟨rfl, rfl⟩, fun b z => absurd z (noA b), e0.bs, e0.bsz, fun b _ _ => noA b, fun b z => absurd z (noA b), e0.funs, e0.frf⟩,
    rfl, e0.bare, Un.kept kp, ⟨_, hns, fun i y v a b c => ?_⟩, fun y c e => ?_, e0.hok.fresh (Nat.le_refl _), fun y c e => ?_, fun p hp => absurd (show p ∈ ([] : List (Addr × Obj)) from hp) (by simp), e0.hok.kept kp, ?_⟩
  · have hy : sc.names.lookup y = some .cell ∨ sc.names.lookup y = some .free := hy
    rcases hy with hy | hy
    · exact absurd rfl (S.nocell _ (PySem.mem_of_lookup hy))
    · rw [S.free y hy]
      exact ⟨cc, rfl⟩
  · have z : false = true := z
    cases z
  · have hi : i < vs.length := by
      unfold L2.start at b
      by_cases hi : i < vs.length
      · exact hi
      · rw [List.getElem?_append_right (by simpa using hi)] at b
        rw [List.getElem?_replicate] at b
        split at b <;> cases b
    have ha : vs[i]? = some v := by
      unfold L2.start at b
      rw [List.getElem?_append_left (by simpa using hi), List.getElem?_map] at b
      cases e : vs[i]? with
      | none => rw [e] at b; cases b
      | some a => rw [e] at b; cases b; rfl
    obtain ⟨u, hu, rv⟩ := r.get ha
    have hp : ps[i]? = some y := by
      rw [← S.pre, List.getElem?_take_of_lt (by omega)]; exact a
    have ndP : ps.Nodup := by rw [← S.pre]; exact S.nd.sublist (List.take_sublist _ _)
    refine ⟨u, rv, .inl ⟨S.par y (List.mem_of_getElem? hp), ?_⟩⟩
    refine lookup_nd ?_ (List.mem_reverse.mpr (zip_get hp hu))
    rw [List.map_reverse, zip_fst (by rw [← r.length, hl])]
    exact List.pairwise_reverse.mpr (List.Pairwise.imp Ne.symm ndP)
  · obtain ⟨rfl, rfl⟩ := KX.cls_only e
    exact ⟨cv, _, kp _ _ ccb.1, rfl⟩
  · obtain ⟨rfl, rfl⟩ := KX.cls_only e
    exact ccb.2
  · unfold L2.start
    show _ = N.length
    rw [List.length_append, List.length_map, List.length_replicate]
    omega
/-! ### statements at the def's own level -/
structure PEA (X : Cx) (c : Code) (e : Expr) (t : TE) : Prop where
  run : ∀ (pins : List (Addr × Obj)) (s : Shared) (σ : L2.St) (H : Hp) (Q : VK), Inv X pins σ H s → t σ H Q → _root_.PySem.wpAt (model X.prog X.w) X.A c (eval e X.env) (EP X pins σ Q) X.xe s
structure PSA (X : Cx) (c : Code) (st : Stmt) (t : TS) : Prop where
  run : ∀ (pins : List (Addr × Obj)) (s : Shared) (σ : L2.St) (H : Hp) (D : Ends), Inv X pins σ H s → t D σ H → _root_.PySem.wpAt (model X.prog X.w) X.A c (exec st X.env) (SP X pins D) X.xe s
structure PSsA (X : Cx) (c : Code) (st : List Stmt) (t : TS) : Prop where
  run : ∀ (pins : List (Addr × Obj)) (s : Shared) (σ : L2.St) (H : Hp) (D : Ends), Inv X pins σ H s → t D σ H → _root_.PySem.wpAt (model X.prog X.w) X.A c (execs st X.env) (SP X pins D) X.xe s
section
variable {X : Cx} {c : Code} {st : Stmt} {rest : List Stmt} {t u : TS} {e : Expr} {te : TE} {pos : Pos}
theorem psa_any (h : PS X st t) : PSA X c st t := ⟨fun pins s σ H D I q => wpAt_of_wpAny (h.run pins s σ H D I q)⟩
theorem pssa_any (h : PSs X rest t) : PSsA X c rest t := ⟨fun pins s σ H D I q => wpAt_of_wpAny (h.run pins s σ H D I q)⟩
theorem pssa_cons (a : PSA X c st t) (b : PSsA X c rest u) : PSsA X c (st :: rest) (tSeq t u) := by
  refine ⟨fun pins s σ H D I q => ks_wpAt_execs_cons (PySem.wpAt_mono (a.run pins s σ H { D with nx := fun σ' H' => u D σ' H' } I q) (fun f s' z => ?_) fun _ _ z => z)⟩
  cases f with
  | next => obtain ⟨σ', H', J, q'⟩ := z; exact b.run pins s' σ' H' D J q'
  | brk => exact z
  | cont => exact z
  | ret u => exact z
theorem pssa_one (a : PSA X c st t) : PSsA X c [st] t := by
  refine ⟨fun pins s σ H D I q => ks_wpAt_execs_cons (PySem.wpAt_mono (a.run pins s σ H D I q) (fun f s' z => ?_) fun _ _ z => z)⟩
  cases f with
  | next => obtain ⟨σ', H', J, q'⟩ := z; exact wpAt_of_wpAny (pss_nil.run pins s' σ' H' D J q')
  | brk => exact z
  | cont => exact z
  | ret u => exact z
theorem psa_ret (he : PEA X c e te) : PSA X c (.Return (some e) pos) (tRet te) := by
  refine ⟨fun pins s σ H D I q => ks_wpAt_Return_some (PySem.wpAt_mono (he.run pins s σ H _ I q) (fun v s' z => ?_) fun _ _ z => z)⟩
  obtain ⟨x, H', J, r, q'⟩ := z
  exact ⟨x, σ, H', J, r, q'⟩
theorem psa_set {i : Nat} {x : Str} {pos' : Pos} (hN : X.N.Nodup) (hi : X.N[i]? = some x) (hx : X.env.scope.names.lookup x = some .local) (he : PEA X c e te) (hs : swapsWith e (some (.Name x pos')) pos.line X.env = pure false := by rfl) : PSA X c (.Assign [.Name x pos'] e pos) (tAsg te (gName i)) := by
  refine ⟨fun pins s σ H D I q => ks_wpAt_Assign_Name (PySem.wpAt_mono (he.run pins s σ H _ I q) (fun v s' z => ?_) fun _ _ z => z) hs⟩
  obtain ⟨y, H', J, r, q'⟩ := z
  exact store_ok J hN hi (.inl hx) r (fun s2 I2 => ⟨_, H', I2, q'⟩) (.inr hx)
theorem psa_expr (he : PEA X c e te) (hint : interactive X.env = false) (hs : swapsWith e none pos.line X.env = pure false := by rfl) : PSA X c (.Expr e pos) (tDrop te) := by
  refine ⟨fun pins s σ H D I q => ks_wpAt_Expr_any (PySem.wpAt_mono (he.run pins s σ H _ I q) (fun v s' z => ?_) fun _ _ z => z) hint hs⟩
  obtain ⟨y, H', J, r, q'⟩ := z
  exact ⟨σ, H', J, q'⟩
theorem psa_if {test : Expr} {b1 b2 : List Stmt} {tc : TT} {t1 t2 : TS} (hc : PT X test tc) (h1 : PSsA X c b1 t1) (h2 : PSsA X c b2 t2) : PSA X c (.If test b1 b2 pos) (tIfS tc t1 t2) := by
  refine ⟨fun pins s σ H D I q => ks_wpAt_If (wpAt_of_wpAny (wpAny_mono (hc.run pins s σ H _ I q) (fun b s' z => ?_) fun _ _ z => z))⟩
  obtain ⟨H', J, q'⟩ := z
  cases b with
  | true => exact h1.run pins s' σ H' D J q'
  | false => exact h2.run pins s' σ H' D J q'
end
/-! ### such a def -/
structure SupF (P : Program) (K : PySem.W.Frag) (f : Addr) (fd : FuncData) (name qual : Str) (params : Arguments) (body : List Stmt) (scope : Scope) (cda cc D : Addr) : Prop where
  fn : ∃ (oc dV kV doc pm ct : Value) (an od : Option Addr) (osl : Array (Option Value)), fd = PySem.W.ksFn name qual params body scope dV kV doc pm an (.ref cda) ct cc ∧ K.lookup f = some ⟨oc, od, .func fd, osl⟩
  code : PySem.W.codeIn K (.ref cda) qual = true
  cd : ∃ (ccl : Value) (cdd : Option Addr) (vs : Array Value) (ccs : Array (Option Value)) (file : Str) (tf : Tok), K.lookup cda = some ⟨ccl, cdd, .fields vs, ccs⟩ ∧ vs[2]? = some (.str file tf) ∧ ((P.main.file : Str) == file) = true
  cell : ∃ (cl : Value) (cld : Option Addr) (csl : Array (Option Value)), K.lookup cc = some ⟨cl, cld, .cell (some (.ref D)), csl⟩
  top : (P.main.scope.names.lookup ("super" : Str)).isSome = false
  opq : PySem.W.nsIn K cStatics "thirdparty.any" = some none
  dcl : ∃ cdD, PySem.W.clsIn K D = some cdD
section
variable {P : Program} {w : World} {K : PySem.W.Frag} {mg : Str → Option Value} {base : Heap} {f cda cc D : Addr} {fd : FuncData} {name qual : Str} {params : Arguments} {body : List Stmt} {scope : Scope} {N ps : List Str}
theorem SupF.ok {CX : CXT} {k : Nat} {sp : Sp} (F : SupF P K f fd name qual params body scope cda cc D) (S : SScope N ps scope) (len : ∀ vs H Q E, sp vs H Q E → vs.length = ps.length)
    (hbody : ∀ (A : Around) (outer : List Env) (s : Shared) (H : Hp) (vs : List V) (Q : VK) (E : XK), Room k (A.deeper (PySem.W.ksEnv qual scope s.heap.objs.size f (.ref cda) cc)) → sp vs H Q E →
      ∃ t, PSsA (KX.supCx CX P w K mg base N qual scope f cda cc A outer s H E) (.func body (PySem.W.ksEnv qual scope s.heap.objs.size f (.ref cda) cc)) body t ∧ t { nx := fun _ H' => Q .non H', rt := Q } (L2.start N vs) H) :
    FnOk P w K mg base CX (k + 1) f fd ps sp := by
  refine ⟨len, fun A outer st h args us vs Q E room env bind r pre => ?_⟩
  have hl := len _ _ _ _ pre
  obtain ⟨oc, dV, kV, doc, pm, ct, an, od, osl, rfl, lf⟩ := F.fn
  obtain ⟨cl, cld, csl, lcc⟩ := F.cell
  have kin : K.In st.heap := env.mod.kin.keeps fun b o e => (env.bs b o e).1
  have nolim : st.heap.NoLimit := env.mod.nolimit.keeps fun b o e => (env.bs b o e).1
  refine ks_codeAny_call_defAt (binds := ps.zip us) room.depth (kin _ _ lf) rfl nolim (PySem.W.codeRec_of kin F.code) rfl bind S.nocell (fun y hy => S.par y.1 (List.of_mem_zip (show (y.1, y.2) ∈ ps.zip us from hy)).1) (fun h1 hns kp => ?_) S.co S.gen S.kind
  obtain ⟨t, ht, hq⟩ := hbody A outer st h vs Q E (room.deeper _) pre
  have I : Inv (KX.supCx CX P w K mg base N qual scope f cda cc A outer st h E) [] (L2.start N vs) h { st with heap := h1, toks := st.toks + (ps.zip us).length } := inv_supN S env room.hd hl lcc hns kp r
  refine PySem.wpAt_mono (ht.run [] _ (L2.start N vs) h _ I hq) (fun fl s' hs => ?_) fun e s' hs => hs
  cases fl with
  | ret u => obtain ⟨v, _, h2, J, rel, z⟩ := hs; exact ⟨v, h2, J.os, J.bare, J.base, J.hok, rel, z⟩
  | next => obtain ⟨_, h2, J, z⟩ := hs; exact ⟨.non, h2, J.os, J.bare, J.base, J.hok, rfl, z⟩
  | brk => exact (let ⟨_, _, _, z⟩ := hs; z : False).elim
  | cont => exact (let ⟨_, _, _, z⟩ := hs; z : False).elim
/-- super().m(e, ..): self stands in the slot 0; C: the object's class -/
def tSup (C : Addr) (sp : Sp) (E : XK) (t : TA) : TE := fun σ H Q => ∃ (a dx : Addr) (fs : List (Str × V)), σ[0]? = some (some (.ref a)) ∧ H a = some (.ins C dx fs) ∧ t σ H fun vs H1 => sp (.ref a :: vs) H1 Q E
structure SupM (P : Program) (w : World) (K : PySem.W.Frag) (mg : Str → Option Value) (base : Heap) (CX : CXT) (k : Nat) (C D : Addr) (m : Str) (ps : List Str) (sp : Sp) : Prop where
  ex : ∃ (g : Addr) (gd : FuncData), PySem.W.ks_superIn K C D m = some (some (.ref g)) ∧ PySem.W.typeIn K (.ref g) = some (.type "function") ∧ PySem.W.fnIn K g = true ∧ FnOk P w K mg base CX k g gd ps sp ∧ Binds K gd ps []
  sub : PySem.W.mroIn K C (.ref D) = some true
theorem sup_core {CX1 : CXT} {C g : Addr} {m : Str} {E : XK} {A : Around} {outer : List Env} {st : Shared} {H0 : Hp} {p0 p1 p2 p4 : Pos} {es : List Expr} {pl : Sem Bool} {ar : Arg} {pins : List (Addr × Obj)} {s : Shared} {σ : L2.St} {H : Hp} {Z : Value → Shared → Prop} {a dx : Addr} {fs : List (Str × V)}
    (F : SupF P K f fd name qual params body scope cda cc D) (S : SScope N ps scope) (har : (params.posonlyargs ++ params.args).head? = some ar) (hself : N[0]? = some ar.arg) (hpar : ar.arg ∈ ps) (hm : mg "super" = none) (hin : PySem.W.ks_superIn K C D m = some (some (.ref g))) (hty : PySem.W.typeIn K (.ref g) = some (.type "function")) (sub : PySem.W.mroIn K C (.ref D) = some true) (hat : (m == ("__class__" : Str)) = false)
    (I : Inv (KX.supCx CX1 P w K mg base N qual scope f cda cc A outer st H0 E) pins σ H s) (h0 : σ[0]? = some (some (.ref a))) (hH : H a = some (.ins C dx fs))
    (hev : eval (.Call (.Attribute (.Call (.Name "super" p0) [] [] p1) m p2) es [] p4) (PySem.W.ksEnv qual scope st.heap.objs.size f (.ref cda) cc) = (do
      let ov ← attributeBase (.Call (.Name "super" p0) [] [] p1) m (PySem.W.ksEnv qual scope st.heap.objs.size f (.ref cda) cc) (eval (.Call (.Name "super" p0) [] [] p1) (PySem.W.ksEnv qual scope st.heap.objs.size f (.ref cda) cc))
      standAt p2.atName
      let (g, first) ← holding [ov] (getMethod ov m pl)
      callWith p4 g first (backTo p4 (starEach es (PySem.W.ksEnv qual scope st.heap.objs.size f (.ref cda) cc))) []) )
    (go : ∀ q s', base.get? q = none → Inv (KX.supCx CX1 P w K mg base N qual scope f cda cc A outer st H0 E) ((q, PySem.W.methodObj (.ref g) (.ref a)) :: pins) σ H s' → wpAny (model P w) (KX.supCx CX1 P w K mg base N qual scope f cda cc A outer st H0 E).A (callWith p4 (.ref q) [] (backTo p4 (starEach es (PySem.W.ksEnv qual scope st.heap.objs.size f (.ref cda) cc))) []) Z (KX.supCx CX1 P w K mg base N qual scope f cda cc A outer st H0 E).xe s') :
    _root_.PySem.wpAt (model P w) (KX.supCx CX1 P w K mg base N qual scope f cda cc A outer st H0 E).A (.func body (PySem.W.ksEnv qual scope st.heap.objs.size f (.ref cda) cc)) (eval (.Call (.Attribute (.Call (.Name "super" p0) [] [] p1) m p2) es [] p4) (PySem.W.ksEnv qual scope st.heap.objs.size f (.ref cda) cc)) Z (KX.supCx CX1 P w K mg base N qual scope f cda cc A outer st H0 E).xe s := by
  obtain ⟨oc, dV, kV, doc, pm, ct, an, od, osl, rfl, lf⟩ := F.fn
  obtain ⟨ccl, cdd, vs, ccs, file, tf, lcd, hvs, hfile⟩ := F.cd
  obtain ⟨cl, cld, csl, lcc⟩ := F.cell
  obtain ⟨cdD, hD⟩ := F.dcl
  refine ks_wpAt_MethodCall (pl := pl) (env := PySem.W.ksEnv qual scope st.heap.objs.size f (.ref cda) cc) ?_ hev
  have kin : K.In s.heap := I.kIn
  obtain ⟨ml, hns, hlk⟩ := I.loc
  have hloc : scope.names.lookup ar.arg = some .local := S.par ar.arg hpar
  obtain ⟨u0, ru0, hu0⟩ := hlk 0 ar.arg (.ref a) hself h0 (.inl hloc)
  obtain rfl : u0 = Value.ref a := ru0
  have hself2 : ml ar.arg = some (.ref a) := by
    rcases hu0 with ⟨_, e⟩ | ⟨z, _⟩
    · exact e
    · rcases z with z | z
      · have z2 : scope.names.lookup ar.arg = some .cell := z
        rw [hloc] at z2; cases z2
      · have z2 : scope.names.lookup ar.arg = some .free := z
        rw [hloc] at z2; cases z2
  obtain ⟨oinst, J⟩ := inst_of I hH
  obtain ⟨mb, b1, b2⟩ := I.ok.mod.blt
  have kb : ∀ b o, base.get? b = some o → s.heap.get? b = some o := fun b o e => (I.bs b o e).1
  obtain ⟨hh, g0, d0, t0, os0⟩ := s
  obtain ⟨oD, hD1, hD2⟩ : ∃ oD, hh.get? D = some oD ∧ oD.data = .cls cdD := by
    unfold PySem.W.clsIn at hD
    split at hD
    · rename_i c d cd' sl ho
      cases hD
      exact ⟨_, kin _ _ ho, rfl⟩
    · cases hD
  refine ks_wpAt_super_base (env := PySem.W.ksEnv qual scope st.heap.objs.size f (.ref cda) cc) S.sup S.cls hat rfl (kin _ _ lf) rfl har rfl (kin _ _ lcd) rfl hvs hfile F.top ?_
  refine PySem.W.ks_loadName_global S.kind S.sup (Calls.loadGlobal_builtin (env := PySem.W.ksEnv qual scope st.heap.objs.size f (.ref cda) cc) (I.ok.mod.glob.keeps kb) hm (b1.keeps kb) ((b2 "super" (by decide)).trans (by decide +kernel)) ⟨rfl, ?_⟩)
  refine wpAny_loadName_free S.kind S.cls rfl ⟨_, kin _ _ lcc, rfl⟩ ?_
  refine wpAny_loadName_local S.kind hloc hns (v := .ref a) hself2 ?_
  refine ks_wpAny_isType_cls hD1 hD2 ⟨rfl, ?_⟩
  refine ks_wpAny_call_super hD1 hD2 J.at_ J.cls (fun c e => ?_) (PySem.W.looks_mroIn kin sub) (fun h2 e2 kp2 => ?_)
  · have := J.no
    unfold PySem.W.notCls at this
    rw [e] at this
    exact Bool.noConfusion this
  have I2 : Inv (KX.supCx CX1 P w K mg base N qual scope f cda cc A outer st H0 E) pins σ H ⟨h2, g0, d0, t0, os0⟩ := I.kept (t' := t0) kp2
  have kin2 : K.In h2 := kin.keeps kp2
  cases hc : PySem.W.clsIn K C with
  | none => unfold PySem.W.ks_superIn at hin; rw [hc] at hin; cases hin
  | some cdC =>
  have hin2 := hin
  unfold PySem.W.ks_superIn at hin2
  rw [hc] at hin2
  obtain ⟨of, hof, hofc⟩ : ∃ of, h2.get? g = some of ∧ of.cls = .type "function" := by
    have ht' : (K.lookup g).map (·.cls) = some (.type "function") := hty
    cases z : K.lookup g with
    | none => rw [z] at ht'; cases ht'
    | some of => rw [z] at ht'; exact ⟨of, kin2 _ _ z, Option.some.inj ht'⟩
  obtain ⟨oinst2, J2⟩ := inst_of I2 hH
  refine ks_wpAny_getMethod_super e2 (PySem.W.looks_opaque kin2 F.opq) (l₀ := cdC.mro) (fun A Q E s k q => wpAny_bind ((PySem.W.looks_clsIn kin2 hc) A _ E s k (wpAny_pure q))) rfl kin2 hin2 hof hofc (PySem.W.ks_ne kin2 J2 hc) hat ?_
  have I3 : Inv (KX.supCx CX1 P w K mg base N qual scope f cda cc A outer st H0 E) ((h2.objs.size, PySem.W.methodObj (.ref g) (.ref a)) :: pins) σ H ⟨h2.push (PySem.W.methodObj (.ref g) (.ref a)), g0, d0, t0 + 1, os0⟩ := ClX.met_new I2
  exact go _ _ (ClX.base_none I2 (Nat.le_refl _)) I3
theorem sup_run {CX1 CX2 : CXT} {k : Nat} {g a q : Addr} {gd : FuncData} {ps2 : List Str} {sp : Sp} {E E2 : XK} {A : Around} {outer : List Env} {st : Shared} {H0 H1 : Hp} {us : List Value} {xs : List V} {Q : VK} {pins : List (Addr × Obj)} {s4 : Shared} {σ : L2.St}
    (room : Room k (KX.supCx CX1 P w K mg base N qual scope f cda cc A outer st H0 E).A) (pass : Passes CX2 (KX.supCx CX1 P w K mg base N qual scope f cda cc A outer st H0 E) E2) (G : FnOk P w K mg base CX2 k g gd ps2 sp) (bind : Binds K gd ps2 []) (I4 : Inv (KX.supCx CX1 P w K mg base N qual scope f cda cc A outer st H0 E) ((q, PySem.W.methodObj (.ref g) (.ref a)) :: pins) σ H1 s4) (rv : Vals xs us) (q1 : sp (.ref a :: xs) H1 Q E2) :
    wpAny (model P w) (KX.supCx CX1 P w K mg base N qual scope f cda cc A outer st H0 E).A (call (.ref q) us) (EP (KX.supCx CX1 P w K mg base N qual scope f cda cc A outer st H0 E) pins σ Q) (KX.supCx CX1 P w K mg base N qual scope f cda cc A outer st H0 E).xe s4 := by
  have z : wpAny (model P w) (KX.supCx CX1 P w K mg base N qual scope f cda cc A outer st H0 E).A (call (.ref q) us) (EP (KX.supCx CX1 P w K mg base N qual scope f cda cc A outer st H0 E) ((q, PySem.W.methodObj (.ref g) (.ref a)) :: pins) σ Q) (KX.supCx CX1 P w K mg base N qual scope f cda cc A outer st H0 E).xe s4 := by
    refine wpAny_call (PySem.W.method_call (ClX.pin_at I4) ?_)
    have rel : Vals (V.ref a :: xs) (Value.ref a :: us) := .cons rfl rv
    have size : ((Value.ref a :: us) ++ []).length = ps2.length := by rw [List.append_nil, ← rel.length]; exact G.len _ _ _ _ q1
    have bd := bind s4 (Value.ref a :: us) I4.kIn size
    rw [List.append_nil] at bd
    refine codeAny_mono (G.run _ (KX.supCx CX1 P w K mg base N qual scope f cda cc A outer st H0 E).stack s4 H1 ⟨Value.ref a :: us, []⟩ _ _ Q E2 room I4.env0 bd rel q1) fun res s5 y => ?_
    match res, y with
    | .error e, y => exact pass _ σ H1 s4 e s5 I4 y
    | .ok (.ret u), y => exact I4.after y
    | .ok .next, y => exact y.elim
    | .ok .brk, y => exact y.elim
    | .ok .cont, y => exact y.elim
  exact thn z fun _ _ y => ClX.unpinE y
theorem pea_super0 {CX1 CX2 : CXT} {k : Nat} {C : Addr} {m : Str} {ps2 : List Str} {sp : Sp} {E E2 : XK} {A : Around} {outer : List Env} {st : Shared} {H0 : Hp} {p0 p1 p2 p4 : Pos} {pl : Sem Bool} {ar : Arg}
    (F : SupF P K f fd name qual params body scope cda cc D) (S : SScope N ps scope) (har : (params.posonlyargs ++ params.args).head? = some ar) (hself : N[0]? = some ar.arg) (hpar : ar.arg ∈ ps) (hm : mg "super" = none) (c : SupM P w K mg base CX2 k C D m ps2 sp) (room : Room k (KX.supCx CX1 P w K mg base N qual scope f cda cc A outer st H0 E).A)
    (pass : Passes CX2 (KX.supCx CX1 P w K mg base N qual scope f cda cc A outer st H0 E) E2) (hat : (m == ("__class__" : Str)) = false := by decide)
    (hev : eval (.Call (.Attribute (.Call (.Name "super" p0) [] [] p1) m p2) [] [] p4) (PySem.W.ksEnv qual scope st.heap.objs.size f (.ref cda) cc) = (do
      let ov ← attributeBase (.Call (.Name "super" p0) [] [] p1) m (PySem.W.ksEnv qual scope st.heap.objs.size f (.ref cda) cc) (eval (.Call (.Name "super" p0) [] [] p1) (PySem.W.ksEnv qual scope st.heap.objs.size f (.ref cda) cc))
      standAt p2.atName
      let (g, first) ← holding [ov] (getMethod ov m pl)
      callWith p4 g first (backTo p4 (starEach [] (PySem.W.ksEnv qual scope st.heap.objs.size f (.ref cda) cc))) []) := by rfl) :
    PEA (KX.supCx CX1 P w K mg base N qual scope f cda cc A outer st H0 E) (.func body (PySem.W.ksEnv qual scope st.heap.objs.size f (.ref cda) cc)) (.Call (.Attribute (.Call (.Name "super" p0) [] [] p1) m p2) [] [] p4) (tSup C sp E2 tNil) := by
  obtain ⟨g, gd, hin, hty, hfi, G, bind⟩ := c.ex
  refine ⟨fun pins s σ H Q I h => ?_⟩
  obtain ⟨a, dx, fs, h0, hH, q⟩ := h
  refine sup_core F S har hself hpar hm hin hty c.sub hat I h0 hH hev fun r s' hb I3 => ?_
  refine PySem.W.callWith_M0 (K := K) (self := .ref a) ⟨ClX.pin_at I3, I3.kIn⟩ hfi ?_
  exact sup_run room pass G bind I3 .nil q
theorem pea_super {CX1 CX2 : CXT} {k : Nat} {C : Addr} {m : Str} {ps2 : List Str} {sp : Sp} {E E2 : XK} {A : Around} {outer : List Env} {st : Shared} {H0 : Hp} {p0 p1 p2 p4 : Pos} {pl : Sem Bool} {ar : Arg} {e : Expr} {es : List Expr} {t : TA}
    (F : SupF P K f fd name qual params body scope cda cc D) (S : SScope N ps scope) (har : (params.posonlyargs ++ params.args).head? = some ar) (hself : N[0]? = some ar.arg) (hpar : ar.arg ∈ ps) (hm : mg "super" = none) (c : SupM P w K mg base CX2 k C D m ps2 sp) (room : Room k (KX.supCx CX1 P w K mg base N qual scope f cda cc A outer st H0 E).A)
    (pass : Passes CX2 (KX.supCx CX1 P w K mg base N qual scope f cda cc A outer st H0 E) E2) (ha : PA (KX.supCx CX1 P w K mg base N qual scope f cda cc A outer st H0 E) (e :: es) t) (hat : (m == ("__class__" : Str)) = false := by decide) (hst : starEach (e :: es) (PySem.W.ksEnv qual scope st.heap.objs.size f (.ref cda) cc) = (false, eval e (PySem.W.ksEnv qual scope st.heap.objs.size f (.ref cda) cc)) :: starEach es (PySem.W.ksEnv qual scope st.heap.objs.size f (.ref cda) cc) := by rfl) (hpl : (backTo p4 (starEach es (PySem.W.ksEnv qual scope st.heap.objs.size f (.ref cda) cc))).any (·.1) = false := by rfl)
    (hev : eval (.Call (.Attribute (.Call (.Name "super" p0) [] [] p1) m p2) (e :: es) [] p4) (PySem.W.ksEnv qual scope st.heap.objs.size f (.ref cda) cc) = (do
      let ov ← attributeBase (.Call (.Name "super" p0) [] [] p1) m (PySem.W.ksEnv qual scope st.heap.objs.size f (.ref cda) cc) (eval (.Call (.Name "super" p0) [] [] p1) (PySem.W.ksEnv qual scope st.heap.objs.size f (.ref cda) cc))
      standAt p2.atName
      let (g, first) ← holding [ov] (getMethod ov m pl)
      callWith p4 g first (backTo p4 (starEach (e :: es) (PySem.W.ksEnv qual scope st.heap.objs.size f (.ref cda) cc))) []) := by rfl) :
    PEA (KX.supCx CX1 P w K mg base N qual scope f cda cc A outer st H0 E) (.func body (PySem.W.ksEnv qual scope st.heap.objs.size f (.ref cda) cc)) (.Call (.Attribute (.Call (.Name "super" p0) [] [] p1) m p2) (e :: es) [] p4) (tSup C sp E2 t) := by
  obtain ⟨g, gd, hin, hty, hfi, G, bind⟩ := c.ex
  refine ⟨fun pins s σ H Q I h => ?_⟩
  obtain ⟨a, dx, fs, h0, hH, q⟩ := h
  refine sup_core F S har hself hpar hm hin hty c.sub hat I h0 hH hev fun r s' hb I3 => ?_
  refine ClX.callwith_cm (C := a) I3 hb hfi (thn (ha.run p4 _ s' σ H _ I3 q) fun us s4 res => ?_) hst hpl
  obtain ⟨xs, H1, I4, rv, q1⟩ := res
  exact ⟨⟨ClX.pin_at I4, I4.kIn⟩, sup_run room pass G bind I4 rv q1⟩
end
theorem r_sup {C : Addr} {sp : Sp} {E : XK} {t : TA} {σ : L2.St} {H : Hp} {Q : VK} {a dx : Addr} {fs : List (Str × V)} (h0 : σ[0]? = some (some (.ref a))) (hH : H a = some (.ins C dx fs)) (q : t σ H fun vs H1 => sp (.ref a :: vs) H1 Q E) : tSup C sp E t σ H Q := ⟨a, dx, fs, h0, hH, q⟩
end KN

/-! KH: a sleeping generator stays as it is while other code runs. -/
namespace KH
open PySem PySem.Spec PyProof.Rows L2 GenW
/-! ### runs that cannot wake the sleepers -/
/-- no resumption comes back -/
def StuckK (k : Resume → Sem PySem.Fin) : Prop := ∀ r, k r = .unsupported "asleep"
def Stuck : GenState → Prop
  | .suspended k _ _ _ _ _ => StuckK k
  | _ => False
def NG (fs : List Frame) : Prop := ∀ F ∈ fs, ∃ k h g l c p kp, F = Frame.ret k h g l c p kp
theorem NG.nil : NG [] := fun F h => absurd h List.not_mem_nil
theorem NG.tail {F : Frame} {fs : List Frame} (h : NG (F :: fs)) : NG fs := fun G m => h G (List.mem_cons_of_mem _ m)
theorem NG.append {fs gs : List Frame} (h : NG fs) (g : NG gs) : NG (fs ++ gs) := fun F m => (List.mem_append.mp m).elim (h F) (g F)
theorem NG.one {k h g l c p kp} : NG [Frame.ret k h g l c p kp] := fun F m => ⟨_, _, _, _, _, _, _, List.mem_singleton.mp m⟩
theorem NG.split : ∀ {fs : List Frame}, NG fs → splitAtGen fs = none
  | [], _ => rfl
  | F :: fs, h => by
    obtain ⟨k, hd, g, l, c, p, kp, rfl⟩ := h F List.mem_cons_self
    show ((splitAtGen fs).map _) = none
    rw [NG.split h.tail]
    rfl
def OkS : GenState → Prop
  | .suspended k _ _ _ fs _ => StuckK k ∨ NG fs
  | _ => True
def OkG (a : Array GenState) : Prop := ∀ (i : Nat) (x : GenState), a[i]? = some x → OkS x
def EndOk : End → Prop
  | .susp _ _ _ _ _ _ fs => NG fs
  | .ret _ => True
theorem EndOk.state {e : End} (h : EndOk e) : OkS e.genState := by
  cases e with
  | ret r => exact trivial
  | susp v g l k c p fs => exact .inr h
structure Rel (a b : Array GenState) : Prop where
  size : a.size = b.size
  at_ : ∀ (i : Nat) (x : GenState), a[i]? = some x → ∃ y, b[i]? = some y ∧ x.bare = y.bare ∧ (x = y ∨ (Stuck x ∧ x.seen = y.seen))
def Kept (a b a' b' : Array GenState) : Prop := ∀ (i : Nat) (x : GenState), a[i]? = some x → Stuck x → a'[i]? = some x ∧ b'[i]? = b[i]?
theorem Kept.refl {a b : Array GenState} : Kept a b a b := fun _ _ e _ => ⟨e, rfl⟩
theorem Kept.trans {a b a1 b1 a2 b2 : Array GenState} (h : Kept a b a1 b1) (g : Kept a1 b1 a2 b2) : Kept a b a2 b2 := fun i x e st => by
  obtain ⟨e1, e2⟩ := h i x e st
  obtain ⟨e3, e4⟩ := g i x e1 st
  exact ⟨e3, e4.trans e2⟩
theorem Rel.lt {a b : Array GenState} (r : Rel a b) {i : Nat} : i < a.size ↔ i < b.size := by rw [r.size]
theorem get_set {a : Array GenState} {g i : Nat} {x z : GenState} (h : (a.setIfInBounds g x)[i]? = some z) : (i = g ∧ z = x) ∨ (i ≠ g ∧ a[i]? = some z) := by
  rw [Array.getElem?_setIfInBounds] at h
  split at h
  · rename_i e
    split at h
    · exact .inl ⟨e.symm, (Option.some.inj h).symm⟩
    · cases h
  · rename_i e
    exact .inr ⟨fun z => e z.symm, h⟩
theorem OkG.set {a : Array GenState} (h : OkG a) {g : Nat} {x : GenState} (ox : OkS x) : OkG (a.setIfInBounds g x) := fun i z e => by
  rcases get_set e with ⟨_, rfl⟩ | ⟨_, e⟩
  · exact ox
  · exact h i z e
theorem Rel.set {a b : Array GenState} (r : Rel a b) {g : Nat} {x : GenState} : Rel (a.setIfInBounds g x) (b.setIfInBounds g x) := by
  refine ⟨by rw [Array.size_setIfInBounds, Array.size_setIfInBounds, r.size], fun i z e => ?_⟩
  rcases get_set e with ⟨rfl, rfl⟩ | ⟨n, e⟩
  · refine ⟨z, ?_, rfl, .inl rfl⟩
    have lt : i < a.size := by
      have := (Array.getElem?_eq_some_iff.mp e).1
      rw [Array.size_setIfInBounds] at this
      exact this
    rw [Array.getElem?_setIfInBounds_self_of_lt (r.lt.mp lt)]
  · obtain ⟨y, ey, h⟩ := r.at_ i z e
    exact ⟨y, by rw [Array.getElem?_setIfInBounds_ne n.symm]; exact ey, h⟩
theorem Kept.set {a b a1 b1 : Array GenState} {g : Nat} {x y w : GenState} (hg : a[g]? = some w) (nw : ¬ Stuck w) (h : Kept (a.setIfInBounds g x) (b.setIfInBounds g x) a1 b1) : Kept a b (a1.setIfInBounds g y) (b1.setIfInBounds g y) := fun i z e st => by
  have n : g ≠ i := fun q => by
    subst q
    rw [hg] at e
    cases e
    exact nw st
  obtain ⟨e1, e2⟩ := h i z (by rw [Array.getElem?_setIfInBounds_ne n]; exact e) st
  rw [Array.getElem?_setIfInBounds_ne n] at e2
  exact ⟨by rw [Array.getElem?_setIfInBounds_ne n]; exact e1, by rw [Array.getElem?_setIfInBounds_ne n]; exact e2⟩
theorem Kept.set1 {a b : Array GenState} {g : Nat} {y w : GenState} (hg : a[g]? = some w) (nw : ¬ Stuck w) : Kept a b (a.setIfInBounds g y) (b.setIfInBounds g y) := fun i z e st => by
  have n : g ≠ i := fun q => by
    subst q
    rw [hg] at e
    cases e
    exact nw st
  exact ⟨by rw [Array.getElem?_setIfInBounds_ne n]; exact e, by rw [Array.getElem?_setIfInBounds_ne n]⟩
theorem push_get {a : Array GenState} {x z : GenState} {i : Nat} (h : (a.push x)[i]? = some z) : (i = a.size ∧ z = x) ∨ a[i]? = some z := by
  rw [Array.getElem?_push] at h
  split at h
  · rename_i e
    exact .inl ⟨e, (Option.some.inj h).symm⟩
  · exact .inr h
theorem push_old {a : Array GenState} {x z : GenState} {i : Nat} (h : a[i]? = some z) : (a.push x)[i]? = some z := by
  have lt := (Array.getElem?_eq_some_iff.mp h).1
  rw [Array.getElem?_push_lt lt]
  rw [Array.getElem?_eq_getElem lt] at h
  exact h
theorem OkG.push {a : Array GenState} (h : OkG a) {c : Code} : OkG (a.push (.fresh c)) := fun i z e => by
  rcases push_get e with ⟨_, rfl⟩ | e
  · exact trivial
  · exact h i z e
theorem Rel.push {a b : Array GenState} (r : Rel a b) {x : GenState} : Rel (a.push x) (b.push x) := by
  refine ⟨by rw [Array.size_push, Array.size_push, r.size], fun i z e => ?_⟩
  rcases push_get e with ⟨rfl, rfl⟩ | e
  · exact ⟨z, by rw [r.size]; exact Array.getElem?_push_size .., rfl, .inl rfl⟩
  · obtain ⟨y, ey, h⟩ := r.at_ i z e
    exact ⟨y, push_old ey, h⟩
theorem Kept.push {a b : Array GenState} (r : Rel a b) {x : GenState} : Kept a b (a.push x) (b.push x) := fun i z e _ => by
  obtain ⟨y, ey, _⟩ := r.at_ i z e
  exact ⟨push_old e, by rw [push_old ey, ey]⟩
theorem no_runs {M : Model} {Γ : PySem.Ctx} {p : Pos} {t : Sem PySem.Fin} {fs : List Frame} {s s' : Shared} {e : End} (h : Runs M Γ p t fs s e s') : ∀ w, t ≠ .unsupported w := by
  induction h with
  | segRet _ _ ih _ => exact ih
  | segGen _ _ ih _ => exact ih
  | segSuspOut _ _ ih => exact ih
  | segSuspGen _ _ _ _ ih _ => exact ih
  | _ => intro w z; cases z
theorem stuck_no {M : Model} {Γ : PySem.Ctx} {p : Pos} {k : Resume → Sem PySem.Fin} {r : Resume} {fs : List Frame} {s s' : Shared} {e : End} (hk : StuckK k) (h : Runs M Γ p (k r) fs s e s') : False := no_runs h _ (hk r)
/-- a run from where some sleepers cannot wake is a run from where they could -/
theorem runs_swap {M : Model} {Γ : PySem.Ctx} {p : Pos} {t : Sem PySem.Fin} {fs : List Frame} {s s' : Shared} {e : End} (h : Runs M Γ p t fs s e s') :
    OkG s.gens → NG fs → ∀ b, Rel s.gens b → OkG s'.gens ∧ EndOk e ∧ ∃ b', Rel s'.gens b' ∧ Kept s.gens b s'.gens b' ∧ Runs M Γ p t fs { s with gens := b } e { s' with gens := b' } := by
  induction h with
  | done => intro ok ng b r; exact ⟨ok, trivial, b, r, .refl, .done⟩
  | raise => intro ok ng b r; exact ⟨ok, trivial, b, r, .refl, .raise⟩
  | again hq _ ih => intro ok ng b r; obtain ⟨o, e, b', r', k, h⟩ := ih ok ng b r; exact ⟨o, e, b', r', k, .again hq h⟩
  | rule _ ih => intro ok ng b r; obtain ⟨o, e, b', r', k, h⟩ := ih ok ng b r; exact ⟨o, e, b', r', k, .rule h⟩
  | «at» _ ih => intro ok ng b r; obtain ⟨o, e, b', r', k, h⟩ := ih ok ng b r; exact ⟨o, e, b', r', k, .at h⟩
  | load ha _ ih => intro ok ng b r; obtain ⟨o, e, b', r', k, h⟩ := ih ok ng b r; exact ⟨o, e, b', r', k, .load ha h⟩
  | update ha _ ih => intro ok ng b r; obtain ⟨o, e, b', r', k, h⟩ := ih ok ng b r; exact ⟨o, e, b', r', k, .update ha h⟩
  | loadIfAlive _ ih => intro ok ng b r; obtain ⟨o, e, b', r', k, h⟩ := ih ok ng b r; exact ⟨o, e, b', r', k, .loadIfAlive h⟩
  | point _ ih => intro ok ng b r; obtain ⟨o, e, b', r', k, h⟩ := ih ok ng b r; exact ⟨o, e, b', r', k, .point h⟩
  | alloc _ ih => intro ok ng b r; obtain ⟨o, e, b', r', k, h⟩ := ih ok ng b r; exact ⟨o, e, b', r', k, .alloc h⟩
  | fresh _ ih => intro ok ng b r; obtain ⟨o, e, b', r', k, h⟩ := ih ok ng b r; exact ⟨o, e, b', r', k, .fresh h⟩
  | ask _ ih => intro ok ng b r; obtain ⟨o, e, b', r', k, h⟩ := ih ok ng b r; exact ⟨o, e, b', r', k, .ask h⟩
  | choose hn _ ih => intro ok ng b r; obtain ⟨o, e, b', r', k, h⟩ := ih ok ng b r; exact ⟨o, e, b', r', k, .choose hn h⟩
  | os _ ih => intro ok ng b r; obtain ⟨o, e, b', r', k, h⟩ := ih ok ng b r; exact ⟨o, e, b', r', k, .os h⟩
  | handled _ ih => intro ok ng b r; obtain ⟨o, e, b', r', k, h⟩ := ih ok ng b r; exact ⟨o, e, b', r', k, .handled h⟩
  | genState hg _ ih =>
    intro ok ng b r
    obtain ⟨o, e, b', r', k, h⟩ := ih ok ng b r
    obtain ⟨y, ey, _, q⟩ := r.at_ _ _ hg
    refine ⟨o, e, b', r', k, .genState ey ?_⟩
    rcases q with rfl | ⟨_, q⟩
    · exact h
    · rw [← q]; exact h
  | stack _ ih => intro ok ng b r; obtain ⟨o, e, b', r', k, h⟩ := ih ok ng b r; exact ⟨o, e, b', r', k, .stack h⟩
  | thread _ ih => intro ok ng b r; obtain ⟨o, e, b', r', k, h⟩ := ih ok ng b r; exact ⟨o, e, b', r', k, .thread h⟩
  | newGen _ ih =>
    intro ok ng b r
    obtain ⟨o, e, b', r', k, h⟩ := ih ok.push ng _ r.push
    refine ⟨o, e, b', r', (Kept.push r).trans k, .newGen ?_⟩
    have z := r.size
    rw [z] at h
    exact h
  | call _ _ ih1 ih2 =>
    intro ok ng b r
    obtain ⟨o1, _, b1, r1, k1, h1⟩ := ih1 ok .nil b r
    obtain ⟨o2, e2, b2, r2, k2, h2⟩ := ih2 o1 ng b1 r1
    exact ⟨o2, e2, b2, r2, k1.trans k2, .call h1 h2⟩
  | callSusp _ ih1 =>
    intro ok ng b r
    obtain ⟨o1, e1, b1, r1, k1, h1⟩ := ih1 ok .nil b r
    exact ⟨o1, NG.append e1 .one, b1, r1, k1, .callSusp h1⟩
  | yield => intro ok ng b r; exact ⟨ok, NG.nil, b, r, .refl, .yield⟩
  | resumeFresh hg _ hq _ ih1 ih2 =>
    intro ok ng b r
    obtain ⟨y, ey, _, q⟩ := r.at_ _ _ hg
    rcases q with rfl | ⟨q, _⟩
    · obtain ⟨o1, e1, b1, r1, k1, h1⟩ := ih1 (ok.set trivial) .nil _ r.set
      obtain ⟨o2, e2, b2, r2, k2, h2⟩ := ih2 (o1.set e1.state) ng _ r1.set
      exact ⟨o2, e2, b2, r2, (Kept.set hg (fun z => z) k1).trans k2, .resumeFresh ey h1 hq h2⟩
    · exact q.elim
  | resumeSuspended hg h0 hq _ ih1 ih2 =>
    intro ok ng b r
    obtain ⟨y, ey, _, q⟩ := r.at_ _ _ hg
    rcases q with rfl | ⟨q, _⟩
    · rcases ok _ _ hg with z | z
      · exact (stuck_no z h0).elim
      · obtain ⟨o1, e1, b1, r1, k1, h1⟩ := ih1 (ok.set trivial) z _ r.set
        obtain ⟨o2, e2, b2, r2, k2, h2⟩ := ih2 (o1.set e1.state) ng _ r1.set
        exact ⟨o2, e2, b2, r2, (Kept.set hg (fun z => stuck_no z h0) k1).trans k2, .resumeSuspended ey h1 hq h2⟩
    · exact (stuck_no q h0).elim
  | resumeJustStarted hg hv _ ih =>
    intro ok ng b r
    obtain ⟨y, ey, _, q⟩ := r.at_ _ _ hg
    rcases q with rfl | ⟨q, _⟩
    · obtain ⟨o, e, b', r', k, h⟩ := ih ok ng b r
      exact ⟨o, e, b', r', k, .resumeJustStarted ey hv h⟩
    · exact q.elim
  | resumeThrowFresh hg _ ih =>
    intro ok ng b r
    obtain ⟨y, ey, _, q⟩ := r.at_ _ _ hg
    rcases q with rfl | ⟨q, _⟩
    · obtain ⟨o, e, b', r', k, h⟩ := ih (ok.set trivial) ng _ r.set
      exact ⟨o, e, b', r', (Kept.set1 hg (fun z => z)).trans k, .resumeThrowFresh ey h⟩
    · exact q.elim
  | resumeRunning hg _ ih =>
    intro ok ng b r
    obtain ⟨y, ey, _, q⟩ := r.at_ _ _ hg
    rcases q with rfl | ⟨q, _⟩
    · obtain ⟨o, e, b', r', k, h⟩ := ih ok ng b r
      exact ⟨o, e, b', r', k, .resumeRunning ey h⟩
    · exact q.elim
  | resumeFinished hg _ ih =>
    intro ok ng b r
    obtain ⟨y, ey, _, q⟩ := r.at_ _ _ hg
    rcases q with rfl | ⟨q, _⟩
    · obtain ⟨o, e, b', r', k, h⟩ := ih ok ng b r
      exact ⟨o, e, b', r', k, .resumeFinished ey h⟩
    · exact q.elim
  | segRet _ _ ih1 ih2 =>
    intro ok ng b r
    obtain ⟨o1, _, b1, r1, k1, h1⟩ := ih1 ok .nil b r
    obtain ⟨o2, e2, b2, r2, k2, h2⟩ := ih2 o1 ng.tail b1 r1
    exact ⟨o2, e2, b2, r2, k1.trans k2, .segRet h1 h2⟩
  | segGen _ _ ih1 ih2 =>
    intro ok ng b r
    obtain ⟨_, _, _, _, _, _, _, z⟩ := ng _ List.mem_cons_self
    cases z
  | segSuspOut hs _ ih1 =>
    intro ok ng b r
    obtain ⟨o1, e1, b1, r1, k1, h1⟩ := ih1 ok .nil b r
    exact ⟨o1, NG.append e1 ng, b1, r1, k1, .segSuspOut hs h1⟩
  | segSuspGen hs _ _ _ ih1 ih2 =>
    intro ok ng b r
    rw [ng.split] at hs
    cases hs
theorem wakes_swap {M : Model} {Γ : PySem.Ctx} {p : Pos} {g : Nat} {r : Resume} {s s' : Shared} {res : GenResult} (h : Wakes M Γ p g r s res s') (ok : OkG s.gens) {b : Array GenState} (rl : Rel s.gens b) :
    OkG s'.gens ∧ ∃ b', Rel s'.gens b' ∧ Kept s.gens b s'.gens b' ∧ Wakes M Γ p g r { s with gens := b } res { s' with gens := b' } := by
  cases hg : s.gens[g]? with
  | none =>
    unfold Wakes at h
    rw [hg] at h
    exact h.elim
  | some x =>
    obtain ⟨y, ey, _, q⟩ := rl.at_ _ _ hg
    have eb : ({ s with gens := b } : Shared).gens[g]? = some y := ey
    unfold Wakes at h ⊢
    rw [hg] at h
    rw [eb]
    cases x with
    | fresh c =>
      rcases q with rfl | ⟨q, _⟩
      · cases r with
        | send v =>
          by_cases hv : v = .none
          · subst hv
            obtain ⟨e1, s1, h1, hq, rfl, rfl⟩ := h
            obtain ⟨o1, eo, b1, r1, k1, g1⟩ := runs_swap h1 (ok.set trivial) .nil _ rl.set
            exact ⟨o1.set eo.state, _, r1.set, Kept.set hg (fun z => z) k1, e1, _, g1, hq, rfl, rfl⟩
          · have h' : res = .justStarted ∧ s' = s := by cases v <;> first | exact absurd rfl hv | exact h
            obtain ⟨rfl, rfl⟩ := h'
            refine ⟨ok, b, rl, .refl, ?_⟩
            cases v <;> first | exact absurd rfl hv | exact ⟨rfl, rfl⟩
        | throw x =>
          obtain ⟨rfl, rfl⟩ := h
          exact ⟨ok.set trivial, _, rl.set, Kept.set1 hg (fun z => z), rfl, rfl⟩
      · exact q.elim
    | suspended k l c p0 fs cl =>
      obtain ⟨e1, s1, h1, hq, rfl, rfl⟩ := h
      rcases q with rfl | ⟨q, _⟩
      · rcases ok _ _ hg with z | z
        · exact (stuck_no z h1).elim
        · obtain ⟨o1, eo, b1, r1, k1, g1⟩ := runs_swap h1 (ok.set trivial) z _ rl.set
          exact ⟨o1.set eo.state, _, r1.set, Kept.set hg (fun z => stuck_no z h1) k1, e1, _, g1, hq, rfl, rfl⟩
      · exact (stuck_no q h1).elim
    | running =>
      obtain ⟨rfl, rfl⟩ := h
      rcases q with rfl | ⟨q, _⟩
      · exact ⟨ok, b, rl, .refl, rfl, rfl⟩
      · exact q.elim
    | finished =>
      obtain ⟨rfl, rfl⟩ := h
      rcases q with rfl | ⟨q, _⟩
      · exact ⟨ok, b, rl, .refl, rfl, rfl⟩
      · exact q.elim
/-- what holds behind, told where the sleepers could wake -/
def Post (a b : Array GenState) (q : Shared → Prop) (s2 : Shared) : Prop := ∃ s', q s' ∧ OkG s'.gens ∧ ∃ b', Rel s'.gens b' ∧ Kept a b s'.gens b' ∧ s2 = { s' with gens := b' }
theorem Post.back {a b a1 b1 : Array GenState} {q : Shared → Prop} {s2 : Shared} (k : Kept a b a1 b1) (h : Post a1 b1 q s2) : Post a b q s2 := by
  obtain ⟨s', h1, h2, b', h3, h4, h5⟩ := h
  exact ⟨s', h1, h2, b', h3, k.trans h4, h5⟩
theorem wp_swap {M : Model} {Γ : PySem.Ctx} {α : Type} (t : Sem α) : ∀ {Q : α → Pos → Shared → Prop} {E : Value → Pos → Shared → Prop} {p : Pos} {s : Shared}, Sem.wp M Γ t Q E p s → OkG s.gens → ∀ b, Rel s.gens b →
    Sem.wp M Γ t (fun a p' s2 => Post s.gens b (Q a p') s2) (fun e p' s2 => Post s.gens b (E e p') s2) p { s with gens := b } := by
  induction t with
  | pure a => intro Q E p s h ok b r; exact ⟨s, h, ok, b, r, .refl, rfl⟩
  | raise e => intro Q E p s h ok b r; exact ⟨s, h, ok, b, r, .refl, rfl⟩
  | unsupported _ => intro Q E p s z; exact z.elim
  | finish _ => intro Q E p s z; exact z.elim
  | rule _ k ih => intro Q E p s h ok b r; exact ih () h ok b r
  | «at» p' k ih => intro Q E p s h ok b r; exact ih () h ok b r
  | load a _ k ih => intro Q E p s h ok b r; obtain ⟨o, ho, h⟩ := h; exact ⟨o, ho, ih o h ok b r⟩
  | update a _ f k ih => intro Q E p s h ok b r; exact ⟨h.1, ih () h.2 ok b r⟩
  | loadIfAlive a k ih => intro Q E p s h ok b r; exact ih _ h ok b r
  | point _ k ih => intro Q E p s h ok b r; exact ih () h ok b r
  | register _ _ => intro Q E p s h; exact h.elim
  | alloc o k ih => intro Q E p s h ok b r; exact ih _ h ok b r
  | fresh k ih => intro Q E p s h ok b r; exact ih _ h ok b r
  | ask k ih => intro Q E p s h ok b r; exact ih _ h ok b r
  | choose src m k ih => intro Q E p s h ok b r; exact ⟨h.1, ih _ h.2 ok b r⟩
  | os q _ k ih => intro Q E p s h ok b r; exact ih _ h ok b r
  | call c hd _ _ k ih =>
    intro Q E p s h ok b r
    obtain ⟨rr, s1, hr, h⟩ := h
    obtain ⟨o1, _, b1, r1, k1, g1⟩ := runs_swap hr ok .nil b r
    refine ⟨rr, _, g1, ?_⟩
    exact Sem.wp_mono _ _ _ (fun _ _ _ z => z.back k1) (fun _ _ _ z => z.back k1) _ _ (ih rr h o1 b1 r1)
  | handled own k ih => intro Q E p s h ok b r; exact ih _ h ok b r
  | genState g k ih =>
    intro Q E p s h ok b r
    obtain ⟨x, hx, h⟩ := h
    obtain ⟨y, ey, _, q⟩ := r.at_ _ _ hx
    refine ⟨y, ey, ?_⟩
    rcases q with rfl | ⟨_, q⟩
    · exact ih _ h ok b r
    · rw [← q]; exact ih _ h ok b r
  | newGen c k ih =>
    intro Q E p s h ok b r
    have z := ih _ h ok.push _ r.push
    have e := r.size
    show Sem.wp M Γ (k b.size) _ _ p _
    rw [← e]
    exact Sem.wp_mono _ _ _ (fun _ _ _ z => z.back (Kept.push r)) (fun _ _ _ z => z.back (Kept.push r)) _ _ z
  | resume g rs _ k ih =>
    intro Q E p s h ok b r
    obtain ⟨res, s1, hw, h⟩ := h
    obtain ⟨o1, b1, r1, k1, g1⟩ := wakes_swap hw ok r
    refine ⟨res, _, g1, ?_⟩
    exact Sem.wp_mono _ _ _ (fun _ _ _ z => z.back k1) (fun _ _ _ z => z.back k1) _ _ (ih res h o1 b1 r1)
  | yield _ _ _ _ => intro Q E p s h; exact h.elim
  | stack k ih => intro Q E p s h ok b r; exact ih _ h ok b r
  | fork _ _ => intro Q E p s h; exact h.elim
  | thread k ih => intro Q E p s h ok b r; exact ih _ h ok b r
  | await _ _ _ _ _ => intro Q E p s h; exact h.elim
/-! ### all that sleep, made unable to wake -/
def asleep : GenState → GenState
  | .suspended _ l c p fs cl => .suspended (fun _ => .unsupported "asleep") l c p fs cl
  | x => x
theorem asleep_bare (x : GenState) : (asleep x).bare = x.bare := by cases x <;> rfl
theorem asleep_seen (x : GenState) : (asleep x).seen = x.seen := by cases x <;> rfl
theorem asleep_ok (a : Array GenState) : OkG (a.map asleep) := fun i x e => by
  rw [Array.getElem?_map] at e
  obtain ⟨y, _, rfl⟩ := Option.map_eq_some_iff.mp e
  cases y with
  | suspended => exact .inl fun _ => rfl
  | _ => exact trivial
theorem asleep_rel (a : Array GenState) : Rel (a.map asleep) a := by
  refine ⟨Array.size_map .., fun i x e => ?_⟩
  rw [Array.getElem?_map] at e
  obtain ⟨y, ey, rfl⟩ := Option.map_eq_some_iff.mp e
  refine ⟨y, ey, asleep_bare y, ?_⟩
  cases y with
  | suspended => exact .inr ⟨fun _ => rfl, rfl⟩
  | _ => exact .inl rfl
theorem Rel.bare {a b : Array GenState} (r : Rel a b) (h : AllBare a) : AllBare b := fun y m => by
  obtain ⟨i, hi, e⟩ := Array.mem_iff_getElem.mp m
  have la : i < a.size := r.lt.mpr hi
  obtain ⟨z, ez, bz, _⟩ := r.at_ i a[i] (Array.getElem?_eq_getElem la)
  rw [Array.getElem?_eq_getElem hi, e] at ez
  cases ez
  rw [← bz]
  exact h _ (Array.getElem_mem la)
theorem asleep_all {a : Array GenState} (h : AllBare a) : AllBare (a.map asleep) := fun y m => by
  obtain ⟨x, hx, rfl⟩ := Array.mem_map.mp m
  rw [asleep_bare]
  exact h x hx
/-- what is kept of the generators: those that sleep -/
def SameGens (a b : Array GenState) : Prop := ∀ (i : Nat) k l c p fs cl, a[i]? = some (GenState.suspended k l c p fs cl) → b[i]? = some (GenState.suspended k l c p fs cl)
theorem SameGens.refl {a : Array GenState} : SameGens a a := fun _ _ _ _ _ _ _ e => e
theorem SameGens.trans {a b c : Array GenState} (h : SameGens a b) (g : SameGens b c) : SameGens a c := fun i k l cc p fs cl e => g i k l cc p fs cl (h i k l cc p fs cl e)
/-- THE RULE: what is shown of a run from any generators holds while the sleepers sleep on -/
theorem wpAny_keep {M : Model} {A : Around} {α : Type} {t : Sem α} {Q : α → Shared → Prop} {E : Value → Shared → Prop} {s : Shared} (h : wpAny M A t Q E { s with gens := s.gens.map asleep }) :
    wpAny M A t (fun a s2 => ∃ s', Q a s' ∧ OkG s'.gens ∧ Rel s'.gens s2.gens ∧ s2 = { s' with gens := s2.gens } ∧ SameGens s.gens s2.gens) (fun e s2 => ∃ s', E e s' ∧ OkG s'.gens ∧ Rel s'.gens s2.gens ∧ s2 = { s' with gens := s2.gens } ∧ SameGens s.gens s2.gens) s := by
  intro Γ p hΓ
  have z := wp_swap t (h Γ p hΓ) (asleep_ok s.gens) s.gens (asleep_rel s.gens)
  have fin : ∀ {q : Shared → Prop} {s2 : Shared}, Post (s.gens.map asleep) s.gens q s2 → ∃ s', q s' ∧ OkG s'.gens ∧ Rel s'.gens s2.gens ∧ s2 = { s' with gens := s2.gens } ∧ SameGens s.gens s2.gens := fun {q s2} y => by
    obtain ⟨s', h1, h2, b', h3, h4, rfl⟩ := y
    refine ⟨s', h1, h2, h3, rfl, fun i k l c p fs cl e => ?_⟩
    have e2 : (s.gens.map asleep)[i]? = some (asleep (.suspended k l c p fs cl)) := by rw [Array.getElem?_map, e]; rfl
    exact ((h4 i _ e2 (fun _ => rfl)).2).trans e
  exact Sem.wp_mono _ _ _ (fun _ _ _ y => fin y) (fun _ _ _ y => fin y) _ _ z
end KH

/-! KH2: a generator def's body for any consumer: it is resumed at any heap that its consumer warrants. -/
namespace KH
open PySem PySem.Spec PyProof.Rows L2 GenW
/-- a state's heap below an address -/
def cutS (L : Nat) (s : Shared) : Shared := { s with heap := { s.heap with objs := s.heap.objs.extract 0 L } }
theorem cut_at {L : Nat} {s : Shared} (b : Nat) : (cutS L s).heap.objs[b]? = if b < L then s.heap.objs[b]? else none := by
  show (s.heap.objs.extract 0 L)[b]? = _
  rw [Array.getElem?_extract, Nat.zero_add]
  by_cases h1 : b < L
  · rw [if_pos h1]
    by_cases h2 : b < s.heap.objs.size
    · rw [if_pos (by omega)]
    · rw [if_neg (by omega)]
      symm
      exact Array.getElem?_eq_none_iff.mpr (by omega)
  · rw [if_neg h1, if_neg (by omega)]
theorem cut_get {L : Nat} {s : Shared} {b : Addr} {o : Obj} (h : (cutS L s).heap.get? b = some o) : b < L ∧ s.heap.get? b = some o := by
  unfold Heap.get? at h ⊢
  rw [cut_at] at h
  by_cases lt : b < L
  · rw [if_pos lt] at h
    exact ⟨lt, h⟩
  · rw [if_neg lt] at h
    cases h
theorem get_cut {L : Nat} {s : Shared} {b : Addr} {o : Obj} (lt : b < L) (h : s.heap.get? b = some o) : (cutS L s).heap.get? b = some o := by
  unfold Heap.get? at h ⊢
  rw [cut_at, if_pos lt]
  exact h
theorem cut_size {L : Nat} {s : Shared} (h : L ≤ s.heap.objs.size) : (cutS L s).heap.objs.size = L := by
  show (s.heap.objs.extract 0 L).size = L
  rw [Array.size_extract]
  omega
/-- a generator def, called: its frame's object at L, its own object at a -/
structure GN where
  prog : Program
  w : World
  K : PySem.W.Frag
  mg : Str → Option Value
  base : Heap
  N : List Str
  qual : Str
  scope : Scope
  L : Addr
  f : Addr
  cd : Value
  A : Around
  outer : List Env
  a : Addr
  go : Obj
  ops : List Addr
  most : Nat
abbrev GN.env (G : GN) : Env := envOfC G.qual G.scope G.L G.f G.cd
def GN.cx (G : GN) (s0 : Shared) (H0 : Hp) (pp : List (Addr × Obj)) : Cx where
  prog := G.prog
  w := G.w
  K := G.K
  mg := G.mg
  base := G.base
  A := G.A.deeper G.env
  N := G.N
  s_0 := s0
  H_0 := H0
  env := G.env
  outer := G.outer
  stack := G.env :: G.outer
  ex := []
  fn := fun _ => true
  calm := true
  pn := (G.a, G.go) :: pp
  xe := fun _ _ => False
abbrev GN.at (G : GN) (s0 : Shared) (H0 : Hp) : Cx := G.cx (cutS G.L s0) H0 (pinsAt G.ops s0.heap)
/-- its consumer's young objects, which it leaves alone -/
def Ow (ops : List Addr) (s : Shared) (H : Hp) : Prop := ∀ b ∈ ops, (∃ o, s.heap.get? b = some o ∧ ∀ v, o.data ≠ .cell v) ∧ H b = none
/-- what does not change of it -/
structure GN.Ok (G : GN) : Prop where
  kind : G.scope.kind = .function
  cells : cellsFrom (G.L + 1) G.scope.names [] = []
  plain : ∀ y ∈ G.scope.names, y.2 ≠ .cell ∧ y.2 ≠ .free
  hd : (G.A.deeper G.env).handled = none
  bsz : G.base.objs.size ≤ G.L
  old : ∀ b ∈ frs G.outer, b < G.L
  god : ∀ v, G.go.data ≠ .cell v
  al : G.L < G.a
  opl : ∀ b ∈ G.ops, G.L < b
/-- what the generator wakes in -/
abbrev GN.E0 (G : GN) (s' : Shared) (H' : Hp) : Prop := Env0 G.prog G.w G.K G.mg G.base G.A G.outer s' H'
theorem GN.Ok.cx {G : GN} (ok : G.Ok) {s' : Shared} {H' : Hp} (e0 : G.E0 s' H') (lt : G.L ≤ s'.heap.objs.size) : (G.at s' H').Ok where
  mod := e0.mod
  kind := ok.kind
  glob := rfl
  blt := rfl
  above := Nat.le_of_eq (cut_size lt)
  inj := fun x y c h => by
    have h : (cellsFrom (G.L + 1) G.scope.names []).lookup x = some c := h
    rw [ok.cells] at h
    cases h
  has := fun x h => by
    have h : G.scope.names.lookup x = some .cell ∨ G.scope.names.lookup x = some .free := h
    rcases h with h | h
    · exact absurd rfl (ok.plain _ (PySem.mem_of_lookup h)).1
    · exact absurd rfl (ok.plain _ (PySem.mem_of_lookup h)).2
  cab := fun x c _ h => by
    have h : (cellsFrom (G.L + 1) G.scope.names []).lookup x = some c := h
    rw [ok.cells] at h
    cases h
  hd := fun _ => ok.hd
  frames := Around.frames_deeper e0.frames
  stk := .inr ⟨rfl, rfl⟩
  exf := fun b z => absurd z List.not_mem_nil
  bs := fun b o e => ⟨get_cut (Nat.lt_of_lt_of_le (Heap.lt_size e) ok.bsz) (e0.bs b o e).1, (e0.bs b o e).2⟩
  bsz := by
    show G.base.objs.size ≤ (cutS G.L s').heap.objs.size
    rw [cut_size lt]
    exact ok.bsz
  noex := fun b o _ z => absurd z List.not_mem_nil
  exfs := fun b z => absurd z List.not_mem_nil
  funs := by
    have all : ∀ (l : List Env), (∀ b ∈ frs l, b < G.L) → s'.heap.FunFrames G.base l → (cutS G.L s').heap.FunFrames G.base l := by
      intro l
      induction l with
      | nil => intro _ _; trivial
      | cons env r ih =>
        intro hs hl
        obtain ⟨nm, ⟨L, o, hf, hn, ho, hd⟩, below⟩ := hl
        have hL : L < G.L := hs L (by unfold frs; rw [List.filterMap_cons, hf]; exact List.mem_cons_self)
        exact ⟨nm, ⟨L, o, hf, hn, get_cut hL ho, hd⟩, ih (fun b hb => hs b (by unfold frs; rw [List.filterMap_cons, hf]; exact List.mem_cons_of_mem _ hb)) below⟩
    exact all G.outer ok.old e0.funs
  frf := e0.frf
/-- its own things are as they were -/
def Kp (G : GN) (ip : List (Addr × Obj)) (s1 s' : Shared) (H' : Hp) : Prop := ∀ b, b = G.L ∨ b = G.a ∨ b ∈ ip.map (·.1) → (∀ o, s1.heap.get? b = some o → s'.heap.get? b = some o) ∧ H' b = none
/-- woken at another state and heap: what its frame holds, its own objects -/
theorem GN.Ok.wake_of {G : GN} (ok : G.Ok) {ip : List (Addr × Obj)} {σ : L2.St} {H' : Hp} {s1 s' : Shared} (loc : ∃ m, s1.heap.Ns G.L m ∧ ∀ (i : Nat) (x : Str) (v : V), G.N[i]? = some x → σ[i]? = some (some v) → Vis G.scope x → ∃ u, RelV v u ∧ Look G.env s1.heap m x u)
    (pins : ∀ p ∈ [(G.a, G.go)] ++ ip, s1.heap.get? p.1 = some p.2 ∧ p.1 ≠ G.L ∧ p.1 ∉ frs G.outer ∧ ∀ v, p.2.data ≠ .cell v) (len : σ.length = G.N.length) (e0 : G.E0 s' H') (k : Kp G ip s1 s' H') (ow : Ow G.ops s' H') : Inv (G.at s' H') ip σ H' s' := by
  obtain ⟨m, hn, hl⟩ := loc
  obtain ⟨oL, es, ep, hoL, r⟩ := id hn
  have hoL' : s1.heap.get? G.L = some oL := hoL
  have kL := (k G.L (.inl rfl)).1 oL hoL'
  have lt : G.L ≤ s'.heap.objs.size := Nat.le_of_lt (Heap.lt_size kL)
  have nocell : ∀ x c, (G.at s' H').env.cells.lookup x = some c → False := fun x c h => by
    have h : (cellsFrom (G.L + 1) G.scope.names []).lookup x = some c := h
    rw [ok.cells] at h
    cases h
  refine ⟨ok.cx e0 lt, rfl, e0.bare, Un.kept fun b o e => (cut_get e).2, ⟨m, ⟨oL, es, ep, kL, r⟩, fun i y v e1 e2 e3 => ?_⟩, fun x c h => (nocell x c h).elim, (k G.L (.inl rfl)).2, fun x c h => (nocell x c h).elim, fun p hp => ?_, e0.hok, len⟩
  · obtain ⟨u, ru, l⟩ := hl i y v e1 e2 e3
    refine ⟨u, ru, ?_⟩
    rcases l with l | ⟨_, c, h, _⟩
    · exact .inl l
    · exact (nocell y c h).elim
  · have mine : p ∈ [(G.a, G.go)] ++ ip → s'.heap.get? p.1 = some p.2 ∧ H' p.1 = none ∧ p.1 ≠ G.L ∧ p.1 ∉ frs G.outer ∧ ∀ v, p.2.data ≠ .cell v := fun hp => by
      obtain ⟨h1, h3, h4, h5⟩ := pins p hp
      have z := k p.1 (by
        rcases List.mem_append.mp hp with hz | hz
        · rw [List.mem_singleton.mp hz]; exact .inr (.inl rfl)
        · exact .inr (.inr (List.mem_map_of_mem hz)))
      exact ⟨z.1 _ h1, z.2, h3, h4, h5⟩
    have hp : p ∈ ((G.a, G.go) :: pinsAt G.ops s'.heap) ++ ip := hp
    rcases List.mem_append.mp hp with hz | hz
    · rcases List.mem_cons.mp hz with hz | hz
      · exact mine (List.mem_append_left _ (List.mem_singleton.mpr hz))
      · obtain ⟨hb, e⟩ := of_pinsAt hz
        obtain ⟨⟨o, e2, d⟩, n⟩ := ow p.1 hb
        rw [e2] at e
        cases e
        refine ⟨e2, n, Nat.ne_of_gt (ok.opl _ hb), fun z => ?_, d⟩
        exact absurd (Nat.lt_trans (ok.old _ z) (ok.opl _ hb)) (Nat.lt_irrefl _)
    · exact mine (List.mem_append_right _ hz)
theorem GN.Ok.woken {G : GN} (ok : G.Ok) {ip : List (Addr × Obj)} {σ : L2.St} {H0 H1 H' : Hp} {s0 s1 s' : Shared} (I : Inv (G.at s0 H0) ip σ H1 s1) (e0 : G.E0 s' H') (k : Kp G ip s1 s' H') (ow : Ow G.ops s' H') : Inv (G.at s' H') ip σ H' s' :=
  ok.wake_of I.loc (fun p hp => by
    obtain ⟨h1, h2, h3, h4, h5⟩ := I.pin p (by
      rcases List.mem_append.mp hp with z | z
      · exact List.mem_append_left _ (by rw [List.mem_singleton.mp z]; exact List.mem_cons_self)
      · exact List.mem_append_right _ z)
    exact ⟨h1, h3, h4, h5⟩) I.len e0 k ow
/-! ### the judgement -/
/-- what is wanted behind a statement: the number of what is out, the heap of the last waking; yl: of what is handed out; rs: of the heap at which one was handed out, and the heap of the next waking -/
structure GD where
  nx : Nat → Hp → L2.St → Hp → Prop
  rt : Nat → Hp → V → Hp → Prop
  bk : Nat → Hp → L2.St → Hp → Prop := fun _ _ _ _ => False
  ct : Nat → Hp → L2.St → Hp → Prop := fun _ _ _ _ => False
  yl : Nat → Hp → V → Hp → Prop
  rs : Nat → Hp → Hp → Prop
abbrev TW := GD → Nat → Hp → L2.St → Hp → Prop
def GD.at (D : GD) (j : Nat) (H0 : Hp) : Ends := { nx := D.nx j H0, rt := D.rt j H0, bk := D.bk j H0, ct := D.ct j H0 }
def HY (G : GN) (Tk : Nat → Shared → Hp → Prop) (yl : Nat → Hp → V → Hp → Prop) (rs : Nat → Hp → Hp → Prop) : Protocol := fun n s₀ v s1 kap =>
  ∃ j x ip σ H0 H1, n + 1 + j = G.most ∧ 1 ≤ n ∧ (∀ p ∈ ip, G.L ≤ p.1 ∧ p.1 ∉ G.ops) ∧ RelV x v ∧ Tk j s₀ H0 ∧ yl j H0 x H1 ∧ Inv (G.at s₀ H0) ip σ H1 s1 ∧ ∀ s' H', Tk (j + 1) s' H' → rs (j + 1) H1 H' → G.E0 s' H' → Kp G ip s1 s' H' → kap (.send .none) s'
def HSP (G : GN) (ip : List (Addr × Obj)) (D : GD) (j : Nat) (s₀ : Shared) (H0 : Hp) (f : Flow) (s : Shared) : Prop := SP (G.at s₀ H0) ip (D.at j H0) f s
/-- the place of its code, whoever wakes it -/
structure HC (G : GN) (c : Code) (fs : List Frame) (gd : Bool → Bool) : Prop where
  ok : G.Ok
  over : G.A.over c fs = G.A.deeper G.env
  split : splitAtGen fs = none
  guard : (fs.any Frame.guarded) = false
  gd : gd false = false
structure HK (G : GN) (Tk : Nat → Shared → Hp → Prop) (ip : List (Addr × Obj)) (R : GenEnd) (c : Code) (fs : List Frame) (Kf : Flow → Sem PySem.Fin) (D : GD) : Prop where
  ok : ∀ (n j : Nat) (s₀ s : Shared) (H0 : Hp) (f : Flow), n + j = G.most → Tk j s₀ H0 → HSP G ip D j s₀ H0 f s → Seg (model G.prog G.w) G.A R (HY G Tk D.yl D.rs) n s₀ c (Kf f) fs s
  lt : ∀ j s H, Tk j s H → G.L ≤ s.heap.objs.size ∧ Ow G.ops s H
  ip : ∀ p ∈ ip, G.L ≤ p.1 ∧ p.1 ∉ G.ops
structure GT (G : GN) (st : Stmt) (t : TW) : Prop where
  run : ∀ (Tk : Nat → Shared → Hp → Prop) (ip : List (Addr × Obj)) (R : GenEnd) (n j : Nat) (s₀ : Shared) (H0 : Hp) (c : Code) (fs : List Frame) (Kf : Flow → Sem PySem.Fin) (J : Value → Sem PySem.Fin) (gd : Bool → Bool) (lv : List Value → List Value) (s : Shared) (σ : L2.St) (H : Hp) (D : GD),
    HC G c fs gd → n + j = G.most → Tk j s₀ H0 → HK G Tk ip R c fs Kf D → Inv (G.at s₀ H0) ip σ H s → t D j H0 σ H → Seg (model G.prog G.w) G.A R (HY G Tk D.yl D.rs) n s₀ c ((exec st G.env).wrap Kf J gd lv) fs s
structure GTs (G : GN) (st : List Stmt) (t : TW) : Prop where
  run : ∀ (Tk : Nat → Shared → Hp → Prop) (ip : List (Addr × Obj)) (R : GenEnd) (n j : Nat) (s₀ : Shared) (H0 : Hp) (c : Code) (fs : List Frame) (Kf : Flow → Sem PySem.Fin) (J : Value → Sem PySem.Fin) (gd : Bool → Bool) (lv : List Value → List Value) (s : Shared) (σ : L2.St) (H : Hp) (D : GD),
    HC G c fs gd → n + j = G.most → Tk j s₀ H0 → HK G Tk ip R c fs Kf D → Inv (G.at s₀ H0) ip σ H s → t D j H0 σ H → Seg (model G.prog G.w) G.A R (HY G Tk D.yl D.rs) n s₀ c ((execs st G.env).wrap Kf J gd lv) fs s
section
variable {G : GN} {st : Stmt} {rest : List Stmt}
def tWPlain (t : TS) : TW := fun D j H0 σ H => t (D.at j H0) σ H
theorem gt_ps {t : TS} (h : ∀ s0 H0 pp, PS (G.cx s0 H0 pp) st t) : GT G st (tWPlain t) := by
  refine ⟨fun Tk ip R n j s₀ H0 c fs Kf J gd lv s σ H D g hn tk k I ht => ?_⟩
  refine seg_wrap ?_
  rw [g.over]
  exact wpAny_mono ((h _ H0 _).run _ s σ H (D.at j H0) I ht) (fun f s' hs => k.ok n j s₀ s' H0 f hn tk hs) fun x s' hx => hx.elim
def tW0 : TW := fun D j H0 σ H => D.nx j H0 σ H
theorem gts_nil : GTs G [] tW0 := by
  refine ⟨fun Tk ip R n j s₀ H0 c fs Kf J gd lv s σ H D g hn tk k I ht => ?_⟩
  exact seg_execs_nil (k.ok n j s₀ s H0 .next hn tk ⟨σ, H, I, ht⟩)
def tWThen (t u : TW) : TW := fun D j H0 σ H => t { D with nx := fun j' H0' σ' H' => u D j' H0' σ' H' } j H0 σ H
theorem gts_cons {t u : TW} (a : GT G st t) (b : GTs G rest u) : GTs G (st :: rest) (tWThen t u) := by
  refine ⟨fun Tk ip R n j s₀ H0 c fs Kf J gd lv s σ H D g hn tk k I ht => ?_⟩
  refine seg_execs_cons ?_
  refine a.run Tk ip R n j s₀ H0 c fs _ J gd lv s σ H { D with nx := fun j' H0' σ' H' => u D j' H0' σ' H' } g hn tk ⟨fun n' j' s₀' s' H0' f hn' tk' hs => ?_, k.lt, k.ip⟩ I ht
  cases f with
  | next =>
    obtain ⟨σ', H', I', q⟩ := hs
    exact b.run Tk ip R n' j' s₀' H0' c fs Kf J gd lv s' σ' H' D g hn' tk' k I' q
  | brk => exact k.ok n' j' s₀' s' H0' .brk hn' tk' hs
  | cont => exact k.ok n' j' s₀' s' H0' .cont hn' tk' hs
  | ret u => exact k.ok n' j' s₀' s' H0' (.ret u) hn' tk' hs
/-! ### yield -/
def tWYield (m : Nat) (te : TE) : TW := fun D j H0 σ H => j + 1 < m ∧ te σ H fun x H1 => D.yl j H0 x H1 ∧ ∀ H2, D.rs (j + 1) H1 H2 → D.nx (j + 1) H2 σ H2
theorem gt_yield {e : Expr} {yp pos : Pos} {te : TE} (he : ∀ s0 H0 pp, PE (G.cx s0 H0 pp) e te) (hco : G.env.scope.isCoroutine = false := by rfl) (hi : interactive G.env = false := by rfl) : GT G (.Expr (.Yield (some e) yp) pos) (tWYield G.most te) := by
  refine ⟨fun Tk ip R n j s₀ H0 c fs Kf J gd lv s σ H D g hn tk k I ht => ?_⟩
  obtain ⟨hlt, ht⟩ := ht
  obtain ⟨left, rfl⟩ : ∃ left, n = left + 1 := ⟨n - 1, by omega⟩
  refine seg_Expr_Yield (hfs := g.split) (hgd := g.gd) (hfg := g.guard) ?_ hco hi
  rw [g.over]
  refine wpAny_mono ((he _ H0 _).run _ s σ H _ I ht) (fun v s' hv => ?_) fun x s' hx => hx.elim
  obtain ⟨x, H1, I1, rv, q1, q2⟩ := hv
  intro kap hk
  refine ⟨j, x, ip, σ, H0, H1, hn, by omega, k.ip, rv, tk, q1, I1, fun s'' H'' tk' r' e0 kp => hk .none s'' ?_⟩
  exact k.ok left (j + 1) s'' s'' H'' .next (by omega) tk' ⟨σ, H'', g.ok.woken I1 e0 kp (k.lt _ _ _ tk').2, q2 H'' r'⟩
/-! ### if -/
def tWIf (tc : TT) (t1 t2 : TW) : TW := fun D j H0 σ H => tc σ H fun b H1 => if b = true then t1 D j H0 σ H1 else t2 D j H0 σ H1
theorem gt_if {test : Expr} {b1 b2 : List Stmt} {pos : Pos} {tc : TT} {t1 t2 : TW} (hc : ∀ s0 H0 pp, PT (G.cx s0 H0 pp) test tc) (h1 : GTs G b1 t1) (h2 : GTs G b2 t2) : GT G (.If test b1 b2 pos) (tWIf tc t1 t2) := by
  refine ⟨fun Tk ip R n j s₀ H0 c fs Kf J gd lv s σ H D g hn tk k I ht => ?_⟩
  rw [exec_If]
  refine seg_bind_wrap (m := standAt _) (wpAny_standAt ?_)
  refine seg_bind_wrap ?_
  rw [g.over]
  refine wpAny_mono ((hc _ H0 _).run _ s σ H _ I ht) (fun b s' hb => ?_) fun x s' hx => hx.elim
  obtain ⟨H2, I2, q2⟩ := hb
  cases b with
  | true =>
    rw [if_pos rfl] at q2 ⊢
    exact h1.run Tk ip R n j s₀ H0 c fs Kf J gd lv s' σ H2 D g hn tk k I2 q2
  | false =>
    rw [if_neg Bool.false_ne_true] at q2 ⊢
    exact h2.run Tk ip R n j s₀ H0 c fs Kf J gd lv s' σ H2 D g hn tk k I2 q2
/-! ### loops -/
theorem hc_loop {c c' : Code} {fs : List Frame} {gd : Bool → Bool} {k : Result → Sem PySem.Fin} {l kp : List Value} {p : Pos} (g : HC G c fs gd) (hw : c'.weight = 0) (hu : c'.cUnits = 0) : HC G c' (.ret k none (gd false) l c p kp :: fs) id where
  ok := g.ok
  over := by rw [over_loop hw hu]; exact g.over
  split := by
    show ((splitAtGen fs).map _) = none
    rw [g.split]; rfl
  guard := by
    show (gd false || (fs.any Frame.guarded)) = false
    rw [g.gd, g.guard]; rfl
  gd := rfl
def tWWhile (c : TT) (tb : TW) : TW := fun D j H0 σ H => ∃ W : Nat → Nat → Hp → L2.St → Hp → Prop, (∃ m, W m j H0 σ H) ∧ ∀ m j H0 σ H, W m j H0 σ H →
  c σ H fun b H1 => if b = true then ∃ N : Nat → Hp → L2.St → Hp → Prop, (∀ j' H0' σ' H', N j' H0' σ' H' → ∃ m', m' < m ∧ W m' j' H0' σ' H') ∧ tb { D with nx := N, ct := N, bk := D.nx } j H0 σ H1 else D.nx j H0 σ H1
theorem gt_while {test : Expr} {body : List Stmt} {pos : Pos} {tc : TT} {tb : TW} (hc : ∀ s0 H0 pp, PT (G.cx s0 H0 pp) test tc) (hb : GTs G body tb) : GT G (.While test body [] pos) (tWWhile tc tb) := by
  refine ⟨fun Tk ip R n j s₀ H0 c fs Kf J gd lv s σ H D g hn tk k I ht => ?_⟩
  obtain ⟨W, ⟨m0, begun⟩, turn⟩ := ht
  refine seg_While fun p => ?_
  have gl := fun (kk : Result → Sem PySem.Fin) => hc_loop (k := kk) (c' := .whileLoop test body [] G.env) (l := lv []) (kp := []) (p := p) g rfl rfl
  have loop : ∀ (m n j : Nat) (s₀ s : Shared) (H0 : Hp) (σ : L2.St) (H : Hp), n + j = G.most → Tk j s₀ H0 → W m j H0 σ H → Inv (G.at s₀ H0) ip σ H s →
      Seg (model G.prog G.w) G.A R (HY G Tk D.yl D.rs) n s₀ (.whileLoop test body [] G.env) ((model G.prog G.w).den (.whileLoop test body [] G.env))
        (.ret (fun r => ((match r with | .ok f => (.pure f : Sem Flow) | .error e => .raise e).onRaise (cameBack G.env)).wrap Kf J gd lv) none (gd false) (lv []) c p [] :: fs) s := by
    intro m
    induction m using Nat.strongRecOn with | ind m ih =>
      intro n j s₀ s H0 σ H hn tk w I
      refine seg_whileLoop ?_
      rw [(gl _).over]
      refine wpAny_mono ((hc _ H0 _).run _ s σ H _ I (turn m j H0 σ H w)) (fun b s' hb' => ?_) fun x s' hx => hx.elim
      obtain ⟨H2, I2, q2⟩ := hb'
      cases b with
      | true =>
        obtain ⟨N, hN, q2⟩ := q2
        rw [if_pos rfl]
        refine hb.run Tk ip R n j s₀ H0 _ _ _ _ id id s' σ H2 { D with nx := N, ct := N, bk := D.nx } (gl _) hn tk ⟨fun n' j' s₀' s3 H0' f hn' tk' hs => ?_, k.lt, k.ip⟩ I2 q2
        cases f with
        | next =>
          obtain ⟨σ3, H3, I3, n3⟩ := hs
          obtain ⟨m', hm, w3⟩ := hN j' H0' σ3 H3 n3
          exact seg_again rfl (ih m' hm n' j' s₀' s3 H0' σ3 H3 hn' tk' w3 I3)
        | cont =>
          obtain ⟨σ3, H3, I3, n3⟩ := hs
          obtain ⟨m', hm, w3⟩ := hN j' H0' σ3 H3 n3
          exact seg_again rfl (ih m' hm n' j' s₀' s3 H0' σ3 H3 hn' tk' w3 I3)
        | brk => exact seg_leaf (.ok .next) (k.ok n' j' s₀' s3 H0' .next hn' tk' hs)
        | ret v => exact seg_leaf (.ok (.ret v)) (k.ok n' j' s₀' s3 H0' (.ret v) hn' tk' hs)
      | false =>
        rw [if_neg (show ¬ false = true from Bool.false_ne_true)]
        refine seg_execs_nil ?_
        exact seg_leaf (.ok .next) (k.ok n j s₀ s' H0 .next hn tk ⟨σ, H2, I2, q2⟩)
  exact loop m0 n j s₀ s H0 σ H hn tk begun I
/-! ### for -/
def tWFor (wi : TI) (g : TG) (tb : TW) : TW := fun D j H0 σ H => wi σ H fun J H1 => ∃ W : Nat → Nat → Nat → Hp → L2.St → Hp → Prop, (∃ m, W 0 m j H0 σ H1) ∧ ∀ i m j H0 σ H, W i m j H0 σ H →
  (J.stop i H ∧ D.nx j H0 σ H) ∨ (J.go i H ∧ ∃ N : Nat → Hp → L2.St → Hp → Prop, (∀ j' H0' σ' H', N j' H0' σ' H' → ∃ m', m' < m ∧ W (i + 1) m' j' H0' σ' H') ∧ ∀ x H', J.yld i H x H' → g x σ H' fun σ2 H2 => tb { D with nx := N, ct := N, bk := D.nx } j H0 σ2 H2)
theorem fp_move {s₀ s₀' : Shared} {H0 H0' H H' : Hp} {ip : List (Addr × Obj)} {b : Addr} (l : G.L ≤ s₀.heap.objs.size) (l' : G.L ≤ s₀'.heap.objs.size) (no : b ∉ G.ops) (h : FpOk (G.at s₀ H0) ip H b) (hn : H' b = none) : FpOk (G.at s₀' H0') ip H' b := by
  obtain ⟨z1, z2, z3, z4, z5, z6⟩ := h
  refine ⟨hn, z2, z3, ?_, z5, fun p hp => ?_⟩
  rotate_left
  · have hp : p ∈ ((G.a, G.go) :: pinsAt G.ops s₀'.heap) ++ ip := hp
    rcases List.mem_append.mp hp with hz | hz
    · rcases List.mem_cons.mp hz with hz | hz
      · exact z6 p (List.mem_append_left _ (by rw [hz]; exact List.mem_cons_self))
      · exact fun e => no (e ▸ (of_pinsAt hz).1)
    · exact z6 p (List.mem_append_right _ hz)
  rcases z4 with z | z
  · exact .inl z
  · right
    have z : (cutS G.L s₀).heap.objs.size ≤ b := z
    show (cutS G.L s₀').heap.objs.size ≤ b
    rw [cut_size l] at z
    rw [cut_size l']
    exact z
theorem fp_no {s₀ : Shared} {H0 H : Hp} {ip : List (Addr × Obj)} {b : Addr} (ow : Ow G.ops s₀ H0) (h : FpOk (G.at s₀ H0) ip H b) : b ∉ G.ops := fun m => by
  obtain ⟨⟨o, e, _⟩, _⟩ := ow b m
  exact h.2.2.2.2.2 (b, o) (List.mem_append_left _ (List.mem_cons_of_mem _ (mem_pinsAt m e))) rfl
theorem gt_for {tg iter : Expr} {body : List Stmt} {wi : TI} {g : TG} {tb : TW} {pos : Pos} (hi : ∀ s0 H0 pp, PI (G.cx s0 H0 pp) tg iter wi) (hg : ∀ s0 H0 pp, PG (G.cx s0 H0 pp) tg g) (hb : GTs G body tb) (hs : ∀ x, foldedSetIterable iter G.env x = pure x := by intro _; rfl) : GT G (.For tg iter body [] pos) (tWFor wi g tb) := by
  refine ⟨fun Tk ip R n j s₀ H0 c fs Kf J gd lv s σ H D gc hn tk k I ht => ?_⟩
  rw [exec_For]
  refine seg_bind_wrap (m := standAt _) (wpAny_standAt ?_)
  refine seg_bind_wrap ?_
  rw [gc.over]
  refine wpAny_mono ((hi _ H0 _).run _ s σ H _ I ht) (fun v s1 h1 => ?_) fun x s' hx => hx.elim
  refine seg_bind_wrap (wpAny_of_eq (hs v) ?_)
  refine seg_bind_wrap (m := standAt _) (wpAny_standAt ?_)
  refine seg_bind_wrap (m := holding _ _) (wpAny_holding ?_)
  rw [gc.over]
  refine wpAny_mono h1 (fun itv s2 h2 => ?_) fun x s' hx => hx.elim
  obtain ⟨it, fp, tn, JJ, H2, rfl, I2, T, st2, f2, W, ⟨m0, w0⟩, turn⟩ := h2
  refine seg_call fun p => ?_
  have gl := fun (kk : Result → Sem PySem.Fin) => hc_loop (k := kk) (c' := .forLoop tg (.ref it) body [] G.env) (l := lv []) (kp := []) (p := p) gc rfl rfl
  have loop : ∀ (m i n j : Nat) (s₀ s : Shared) (H0 : Hp) (σ : L2.St) (H : Hp), n + j = G.most → Tk j s₀ H0 → W i m j H0 σ H → Inv (G.at s₀ H0) ip σ H s → tn i s.heap → (∀ b ∈ fp, FpOk (G.at s₀ H0) ip H b) →
      Seg (model G.prog G.w) G.A R (HY G Tk D.yl D.rs) n s₀ (.forLoop tg (.ref it) body [] G.env) ((model G.prog G.w).den (.forLoop tg (.ref it) body [] G.env))
        (.ret (fun r => ((match r with | .ok f => (.pure f : Sem Flow) | .error e => .raise e).onRaise (cameBack G.env)).wrap Kf J gd lv) none (gd false) (lv []) c p [] :: fs) s := by
    intro m
    induction m using Nat.strongRecOn with | ind m ih =>
      intro i n j s₀ s H0 σ H hn tk w I st f
      refine KGen.seg_for_ ?_
      rw [(gl _).over]
      rcases turn i m j H0 σ H w with ⟨stop, qn⟩ | ⟨go, N, hN, step⟩
      · refine wpAny_mono (T.done (G.at s₀ H0) rfl rfl rfl rfl i _ s σ H (fun _ _ => False) I f st stop) (fun r' s3 hr => ?_) fun x s' hx => hx.elim
        obtain ⟨rfl, I3⟩ := hr
        refine seg_again rfl ?_
        show Seg _ _ _ _ _ _ _ (((execs [] G.env).onRaise (fun x => do noteFrame x G.env; theTreesLotGoes x)) >>= fun f => pure (.done f)) _ _
        exact seg_leaf (.ok .next) (k.ok n j s₀ s3 H0 .next hn tk ⟨σ, H, I3, qn⟩)
      · refine wpAny_mono (T.item (G.at s₀ H0) rfl rfl rfl rfl i _ s σ H (fun _ _ => False) I f st go) (fun r' s3 hr => ?_) fun x s' hx => hx.elim
        obtain ⟨u, rfl, h3⟩ := hr
        refine wpAny_mono h3 (fun _ s5 h5 => ?_) fun x s' hx => hx.elim
        obtain ⟨x5, H5, I5, r5, y5, st5, fr5⟩ := h5
        have f5 : ∀ b ∈ fp, FpOk (G.at s₀ H0) ip H5 b := fun b hb => ⟨fr5 b hb, (f b hb).2⟩
        have I5' := I5.pinned f5 (T.obj _ _ st5)
        refine wpAny_mono ((hg _ H0 _).run _ s5 σ H5 x5 u _ I5' r5 (step x5 H5 y5)) (fun _ s6 h6 => ?_) fun x s' hx => hx.elim
        obtain ⟨σ6, H6, I6, q6⟩ := h6
        refine hb.run Tk (ip ++ pinsAt fp s5.heap) R n j s₀ H0 _ _ _ _ id id s6 σ6 H6 { D with nx := N, ct := N, bk := D.nx } (gl _) hn tk ⟨fun n' j' s₀' s7 H0' fl hn' tk' hs' => ?_, k.lt, fun q hq => ?_⟩ I6 q6
        rotate_left
        · rcases List.mem_append.mp hq with mine | mine
          · exact k.ip q mine
          · obtain ⟨hb', _⟩ := of_pinsAt mine
            refine ⟨?_, fp_no (k.lt _ _ _ tk).2 (f q.1 hb')⟩
            rcases (f q.1 hb').2.2.2.1 with z | z
            · exact absurd z List.not_mem_nil
            · have z : (cutS G.L s₀).heap.objs.size ≤ q.1 := z
              rw [cut_size (k.lt _ _ _ tk).1] at z
              exact z
        have again : ∀ {σ7 : L2.St} {H7 : Hp}, Inv (G.at s₀' H0') (ip ++ pinsAt fp s5.heap) σ7 H7 s7 → N j' H0' σ7 H7 → Seg (model G.prog G.w) G.A R (HY G Tk D.yl D.rs) n' s₀' (.forLoop tg (.ref it) body [] G.env) (.pure (.again (.forLoop tg (.ref it) body [] G.env)))
            (.ret (fun r => ((match r with | .ok f => (.pure f : Sem Flow) | .error e => .raise e).onRaise (cameBack G.env)).wrap Kf J gd lv) none (gd false) (lv []) c p [] :: fs) s7 := fun {σ7 H7} I7 n7 => by
          obtain ⟨m', hm, w7⟩ := hN j' H0' σ7 H7 n7
          have at7 : ∀ b ∈ fp, ∀ o, s5.heap.get? b = some o → s7.heap.get? b = some o ∧ H7 b = none := fun b hb o e => by
            have z := I7.pin (b, o) (List.mem_append_right _ (List.mem_append_right _ (mem_pinsAt hb e)))
            exact ⟨z.1, z.2.1⟩
          refine seg_again rfl (ih m' hm (i + 1) n' j' s₀' s7 H0' σ7 H7 hn' tk' w7 I7.unpinned (T.keep _ _ _ st5 fun b hb o e => (at7 b hb o e).1) fun b hb => ?_)
          obtain ⟨o, e, _⟩ := T.obj _ _ st5 b hb
          exact fp_move (k.lt _ _ _ tk).1 (k.lt _ _ _ tk').1 (fp_no (k.lt _ _ _ tk).2 (f b hb)) (f b hb) (at7 b hb o e).2
        cases fl with
        | next => obtain ⟨σ7, H7, I7, n7⟩ := hs'; exact again I7 n7
        | cont => obtain ⟨σ7, H7, I7, n7⟩ := hs'; exact again I7 n7
        | brk => obtain ⟨σ7, H7, I7, q7⟩ := hs'; exact seg_leaf (.ok .next) (k.ok n' j' s₀' s7 H0' .next hn' tk' ⟨σ7, H7, I7.unpinned, q7⟩)
        | ret v => obtain ⟨x7, σ7, H7, I7, r7, q7⟩ := hs'; exact seg_leaf (.ok (.ret v)) (k.ok n' j' s₀' s7 H0' (.ret v) hn' tk' ⟨x7, σ7, H7, I7.unpinned, r7, q7⟩)
  exact loop m0 0 n j s₀ s2 H0 σ H2 hn tk w0 I2 st2 f2
end
/-! ### a generator def -/
theorem cells_none : ∀ (l : List (Str × NameKind)) (n : Nat), (∀ y ∈ l, y.2 ≠ .cell) → cellsFrom n l [] = []
  | [], _, _ => rfl
  | (x, k) :: r, n, h => by
    have hk : k ≠ .cell := h (x, k) List.mem_cons_self
    show (if k == .cell then _ else cellsFrom n r []) = []
    rw [if_neg (show ¬ (k == .cell) = true by simpa using hk)]
    exact cells_none r n fun y m => h y (List.mem_cons_of_mem _ m)
/-- what is wanted of a generator def's call: rs: what its consumer warrants of the heap of the j-th waking beside the one handed out last (at first that of the call); yl: of what is handed out; en: of its end -/
abbrev SpH := List V → Hp → (Nat → Hp → Hp → Prop) → (Nat → Hp → V → Hp → Prop) → (Nat → Hp → Hp → Prop) → Prop
def HF (G : GN) (Tk : Nat → Shared → Hp → Prop) (en : Nat → Hp → Hp → Prop) (n : Nat) (s₀ s1 : Shared) : Prop :=
  ∃ j H0 H1, n + j = G.most ∧ Tk j s₀ H0 ∧ en j H0 H1 ∧ s1.os = s₀.os ∧ AllBare s1.gens ∧ Un (frs G.outer) [] H0 H1 (cutS G.L s₀).heap s1.heap ∧ HOk G.prog G.w H1 s1.heap ∧ ∀ p ∈ pinsAt G.ops s₀.heap, s1.heap.get? p.1 = some p.2 ∧ H1 p.1 = none
abbrev HR (G : GN) (Tk : Nat → Shared → Hp → Prop) (en : Nat → Hp → Hp → Prop) : GenEnd := fun n s₀ r s1 => r = .ok (.ret .none) ∧ HF G Tk en n s₀ s1
/-- what such a call gives: a generator that has not begun -/
def HMade (P : Program) (w : World) (K : PySem.W.Frag) (mg : Str → Option Value) (base : Heap) (k most : Nat) (outer : List Env) (s : Shared) (Hc : Hp) (rs : Nat → Hp → Hp → Prop) (yl : Nat → Hp → V → Hp → Prop) (en : Nat → Hp → Hp → Prop) (u : Value) (s' : Shared) : Prop :=
  ∃ (N : List Str) (qual : Str) (scope : Scope) (f : Addr) (cd : Value) (a g : Nat) (go : Obj) (c : Code), u = .ref a ∧ s.heap.objs.size < a ∧ s'.heap.get? a = some go ∧ (∀ h : Heap, h.get? a = some go → h.IsGen a g) ∧ (∀ v, go.data ≠ .cell v) ∧ s'.gens[g]? = some (.fresh c) ∧ s'.os = s.os ∧ AllBare s'.gens ∧
    (∃ oL, s'.heap.get? s.heap.objs.size = some oL ∧ ∀ v, oL.data ≠ .cell v) ∧ (∀ b o, s.heap.get? b = some o → s'.heap.get? b = some o) ∧
    ∀ (A : Around) (ops : List Addr) (Tk : Nat → Shared → Hp → Prop), Room k A → A.frames = some outer → (∀ b ∈ ops, s.heap.objs.size < b) → (∀ j s2 H2, Tk j s2 H2 → s.heap.objs.size ≤ s2.heap.objs.size ∧ Ow ops s2 H2) → (GN.mk P w K mg base N qual scope s.heap.objs.size f cd A outer a go ops most).Ok ∧ ∀ (s2 : Shared) (H2 : Hp), Tk 0 s2 H2 → rs 0 Hc H2 → Env0 P w K mg base A outer s2 H2 → Kp (GN.mk P w K mg base N qual scope s.heap.objs.size f cd A outer a go ops most) [] s' s2 H2 →
      Seg (model P w) A (HR (GN.mk P w K mg base N qual scope s.heap.objs.size f cd A outer a go ops most) Tk en) (HY (GN.mk P w K mg base N qual scope s.heap.objs.size f cd A outer a go ops most) Tk yl rs) most s2 c ((model P w).den c) [] s2
structure HFn (P : Program) (w : World) (K : PySem.W.Frag) (mg : Str → Option Value) (base : Heap) (k most : Nat) (f : Addr) (fd : FuncData) (ps : List Str) (sp : SpH) : Prop where
  len : ∀ vs H rs yl en, sp vs H rs yl en → vs.length = ps.length
  run : ∀ (A : Around) (outer : List Env) (s : Shared) (H : Hp) (args : Args) (us : List Value) (vs : List V) (rs : Nat → Hp → Hp → Prop) (yl : Nat → Hp → V → Hp → Prop) (en : Nat → Hp → Hp → Prop), Room k A → Env0 P w K mg base A outer s H → BindsTo s fd args (ps.zip us) → Vals vs us → sp vs H rs yl en →
    codeAny (model P w) A (.call (.ref f) args) (fun r s' => match r with | .ok (.ret u) => HMade P w K mg base k most outer s H rs yl en u s' | _ => False) s
theorem hfn_of {P : Program} {w : World} {K : PySem.W.Frag} {mg : Str → Option Value} {base : Heap} {k most : Nat} {f : Addr} {name qual : Str} {params : Arguments} {body : List Stmt} {scope : Scope} {dV kV doc pm cdv ct oc : Value} {an od : Option Addr}
    {osl : Array (Option Value)} {N ps : List Str} {sp : SpH} (look : K.lookup f = some ⟨oc, od, .func (PySem.W.fnOf name qual params body scope dV kV doc pm an cdv ct), osl⟩) (codeK : PySem.W.codeIn K cdv qual = true) (S : GScope N ps scope) (plain : ∀ y ∈ scope.names, y.2 ≠ .cell ∧ y.2 ≠ .free)
    (len : ∀ vs H rs yl en, sp vs H rs yl en → vs.length = ps.length)
    (hbody : ∀ (A : Around) (outer : List Env) (L a : Addr) (go : Obj) (ops : List Addr) (vs : List V) (H : Hp) (rs : Nat → Hp → Hp → Prop) (yl : Nat → Hp → V → Hp → Prop) (en : Nat → Hp → Hp → Prop), Room k (A.deeper (envOfC qual scope L f cdv)) → sp vs H rs yl en →
      ∃ t, GTs (GN.mk P w K mg base N qual scope L f cdv A outer a go ops most) body t ∧ ∀ H0, rs 0 H H0 → t { nx := fun j H0 _ H' => en j H0 H', rt := fun j H0 v H' => v = .non ∧ en j H0 H', yl := yl, rs := rs } 0 H0 (start N vs) H0) :
    HFn P w K mg base (k + 1) most f (PySem.W.fnOf name qual params body scope dV kV doc pm an cdv ct) ps sp := by
  refine ⟨len, fun A outer s H args us vs rs yl en room ent binds r hsp => ?_⟩
  have lens := len _ _ _ _ _ hsp
  have inK : K.In s.heap := ent.mod.kin.keeps fun b o e => (ent.bs b o e).1
  have noLim : s.heap.NoLimit := ent.mod.nolimit.keeps fun b o e => (ent.bs b o e).1
  have parKinds : ∀ y ∈ ps.zip us, scope.names.lookup y.1 = some .local ∨ (scope.names.lookup y.1 = some .cell ∧ ((cellsFrom (s.heap.objs.size + 1) scope.names []).lookup y.1).isSome = true) := fun ⟨n, v⟩ hy => by
    cases S.par n (List.of_mem_zip hy).1 with
    | inl here => exact .inl here
    | inr cell => exact absurd rfl (plain _ (PySem.mem_of_lookup cell)).1
  refine codeAny_call_generator room.depth (inK _ _ look) rfl S.co S.gen rfl (PySem.W.codeRec_of inK codeK) (binds _ _ _ _ ?_)
  refine wpAny_newFunctionEnv_cells S.kind parKinds fun env he s1 x => ?_
  subst he
  have noLim1 : s1.heap.NoLimit := noLim.keeps x.toInCall.keep
  refine ⟨noLim1, ?_⟩
  obtain ⟨h1, tk, eqS, keepS⟩ := x.done
  have sameOs : s1.os = s.os := by rw [eqS]
  have sameGens : s1.gens = s.gens := by rw [eqS]
  have youngL : s.heap.objs.size < s1.heap.objs.size := x.toInCall.ns.lt
  have keepAll : ∀ b o, s.heap.get? b = some o → s1.heap.get? b = some o := x.toInCall.keep
  have atStart : Inv (gcxOf P w K mg base N qual scope f cdv A outer s H (fun _ _ _ => False) []) [] (start N vs) H s1 := inv_startG S room.hd ent lens r x
  have made : ∀ (go : Obj) (nm qn : Value) (tokens : Nat), go.cls = .type "generator" → go.data = .fields #[.int s1.gens.size 0, nm, qn] → go.slots = #[] → (∀ h : Heap, (h.push go).get? h.objs.size = some go) →
      HMade P w K mg base (k + 1) most outer s H rs yl en (.ref s1.heap.objs.size) { s1 with gens := s1.gens.push (.fresh (.func body (envOfC qual scope s.heap.objs.size f cdv))), toks := tokens, heap := s1.heap.push go } := by
    intro go nm qn tokens gCls gData gSlots gAt
    have isG : ∀ h : Heap, h.get? s1.heap.objs.size = some go → h.IsGen s1.heap.objs.size s1.gens.size := fun h e => ⟨go, nm, qn, e, gCls, gData, gSlots⟩
    have atA : (s1.heap.push go).get? s1.heap.objs.size = some go := gAt _
    have gPlain : ∀ v, go.data ≠ .cell v := fun v q => by rw [gData] at q; cases q
    obtain ⟨m, hn, hlk⟩ := atStart.loc
    obtain ⟨oL, es, ep, hoL, hdL, rL⟩ := id hn
    have hoL' : s1.heap.get? s.heap.objs.size = some oL := hoL
    refine ⟨N, qual, scope, f, cdv, s1.heap.objs.size, s1.gens.size, go, _, rfl, youngL, atA, isG, gPlain, Array.getElem?_push_size .., sameOs, AllBare.push (by rw [sameGens]; exact ent.bare) rfl, ⟨oL, Heap.get?_push_of_some _ hoL', fun v q => by rw [hdL] at q; cases q⟩, fun b o e => Heap.get?_push_of_some _ (keepAll b o e), ?_⟩
    intro Aw ops Tk hrw hfr hops htk
    have ok : (GN.mk P w K mg base N qual scope s.heap.objs.size f cdv Aw outer s1.heap.objs.size go ops most).Ok := {
      kind := S.kind
      cells := cells_none _ _ fun y m => (plain y m).1
      plain := plain
      hd := hrw.hd
      bsz := ent.bsz
      old := fun b binds => by
        obtain ⟨_, o, ho, _⟩ := ent.funs.mem binds
        exact Heap.lt_size ho
      god := gPlain
      al := youngL
      opl := hops }
    refine ⟨ok, fun s2 H2 tk0 r0 e2 kp => ?_⟩
    obtain ⟨t, ht, hq⟩ := hbody Aw outer s.heap.objs.size s1.heap.objs.size go ops vs H rs yl en (hrw.deeper _) hsp
    have I2 : Inv ((GN.mk P w K mg base N qual scope s.heap.objs.size f cdv Aw outer s1.heap.objs.size go ops most).at s2 H2) [] (start N vs) H2 s2 := by
      refine ok.wake_of (s1 := { s1 with gens := s1.gens.push (.fresh (.func body (envOfC qual scope s.heap.objs.size f cdv))), toks := tokens, heap := s1.heap.push go }) ⟨m, ⟨oL, es, ep, Heap.get?_push_of_some _ hoL', hdL, rL⟩, fun i y v e1 e2 e3 => ?_⟩ (fun p hp => ?_) atStart.len e2 kp (htk _ _ _ tk0).2
      · obtain ⟨u, ru, l⟩ := hlk i y v e1 e2 e3
        refine ⟨u, ru, ?_⟩
        rcases l with l | ⟨kk, c, h, hc⟩
        · exact .inl l
        · refine .inr ⟨kk, c, h, ?_⟩
          obtain ⟨oc, ho, hd⟩ := hc
          exact ⟨oc, Heap.get?_push_of_some _ ho, hd⟩
      · rcases List.mem_append.mp hp with own | own
        · rw [List.mem_singleton.mp own]
          exact ⟨atA, Nat.ne_of_gt youngL, atStart.nofs (Nat.le_refl _), gPlain⟩
        · exact absurd own List.not_mem_nil
    refine seg_func ?_
    refine ht.run Tk [] _ most 0 s2 H2 _ [] _ _ id id s2 (start N vs) H2 _ ⟨ok, over_func, rfl, rfl, rfl⟩ rfl tk0 ⟨fun n j s₀ s' H0 fl hn tk' hs => ?_, fun j s2 H2 z => htk j s2 H2 z, fun p hp => absurd hp List.not_mem_nil⟩ I2 (hq H2 r0)
    have fin : ∀ {σ' : L2.St} {H' : Hp}, Inv ((GN.mk P w K mg base N qual scope s.heap.objs.size f cdv Aw outer s1.heap.objs.size go ops most).at s₀ H0) [] σ' H' s' → en j H0 H' → HR (GN.mk P w K mg base N qual scope s.heap.objs.size f cdv Aw outer s1.heap.objs.size go ops most) Tk en n s₀ (.ok (.ret .none)) s' := fun {σ' H'} I' q =>
      ⟨rfl, j, H0, H', hn, tk', q, I'.os, I'.bare, I'.base, I'.hok, fun p hp => by obtain ⟨z1, z2, _⟩ := I'.pin p (List.mem_append_left _ (List.mem_cons_of_mem _ hp)); exact ⟨z1, z2⟩⟩
    cases fl with
    | next =>
      obtain ⟨σ', H', I', q⟩ := hs
      exact seg_end (.ok (.ret .none)) (fin I' q)
    | brk => obtain ⟨_, _, _, no⟩ := hs; exact no.elim
    | cont => obtain ⟨_, _, _, no⟩ := hs; exact no.elim
    | ret u =>
      obtain ⟨v, σ', H', I', rv, ev, q⟩ := hs
      subst ev
      obtain rfl : u = Value.none := rv
      exact seg_end (.ok (.ret .none)) (fin I' q)
  exact made _ _ _ _ rfl rfl rfl fun h => Heap.get?_push_size _ rfl
end KH

/-! KH3: loops over a generator that a call gives. -/
namespace KH
open PySem PySem.Spec PyProof.Rows L2 GenW
/-! ### next of a generator; it sleeps behind it, or is done -/
section
variable {M : Model}
theorem quiet_state {v : Value} {gd : Bool} {l : List Value} {k : Resume → Sem PySem.Fin} {c : Code} {p : Pos} {fs : List Frame} (h : (End.susp v gd l k c p fs).quiet = true) : (End.susp v gd l k c p fs).genState = .suspended k l c p fs false := by
  have e : (gd || fs.any Frame.guarded) = false := by
    unfold End.quiet at h
    simpa using h
  show GenState.suspended k l c p fs (gd || fs.any Frame.guarded) = _
  rw [e]
theorem resume_sleep {A : Around} {R : GenEnd} {Y : Protocol} {n : Nat} {E : Value → Shared → Prop} {s : Shared} {g : Nat} {gs : GenState} {r : Resume} {l : List Value} {α : Type} {kk : GenResult → Sem α} {Q : α → Shared → Prop} (hg : s.gens[g]? = some gs) (hgo : gs.Goes M A R Y n r (s.setGen g .running))
    (hR : ∀ x s1, R n (s.setGen g .running) x s1 → wpAny M A (kk (End.ret x).result) Q E (s1.setGen g .finished))
    (hY : ∀ v s1 k lv c p fs, Y (n - 1) (s.setGen g .running) v s1 (fun r2 s2 => Seg.next M A R Y n c (k r2) fs s2) → wpAny M A (kk (.yielded v)) Q E (s1.setGen g (.suspended k lv c p fs false))) : wpAny M A (.resume g r l kk) Q E s := by
  intro Γ p hΓ
  have ends : ∀ e1 s1, SegEnd R Y n (Seg.next M A R Y n) (s.setGen g .running) e1 s1 → e1.quiet = true ∧ Sem.wp M Γ (kk e1.result) (fun a _ s2 => Q a s2) (fun e _ s2 => E e s2) p (s1.setGen g e1.genState) := by
    intro e1 s1 h
    cases e1 with
    | ret x => exact ⟨rfl, hR x s1 h Γ p hΓ⟩
    | susp v gd lv k c q fs =>
      refine ⟨h.1, ?_⟩
      rw [quiet_state h.1]
      exact hY v s1 k lv c q fs h.2 Γ p hΓ
  rw [Sem.wp_resume]
  cases gs with
  | fresh c =>
    obtain ⟨rfl, seg⟩ := hgo
    obtain ⟨e1, s1, run, fin⟩ := seg_iff.mp seg (Γ.wake c p) p rfl (hΓ.wake c p)
    exact ⟨e1.result, s1.setGen g e1.genState, by unfold Wakes; rw [hg]; exact ⟨e1, s1, run, (ends e1 s1 fin).1, rfl, rfl⟩, (ends e1 s1 fin).2⟩
  | suspended k lv c q fs cl =>
    obtain ⟨e1, s1, run, fin⟩ := seg_iff.mp hgo (Γ.wake c p) q rfl (hΓ.wake c p)
    exact ⟨e1.result, s1.setGen g e1.genState, by unfold Wakes; rw [hg]; exact ⟨e1, s1, run, (ends e1 s1 fin).1, rfl, rfl⟩, (ends e1 s1 fin).2⟩
  | running => exact hgo.elim
  | finished => exact hgo.elim
end
section
variable {P : Program} {w : World} {A : Around} {E : Value → Shared → Prop} {s : Shared}
theorem next_sleep {a : Addr} {g n : Nat} {gs : GenState} {F : Nat → Shared → Shared → Prop} {Y : Protocol} {Q : Option Value → Shared → Prop} (free : A.handled = none) (nolim : s.heap.NoLimit) (deep : A.depth < recursionLimit) (isg : s.heap.IsGen a g) (hgs : s.gens[g]? = some gs)
    (hgo : gs.Goes (model P w) A.in1 (fun n s0 r s1 => r = .ok (.ret .none) ∧ F n s0 s1) Y n (.send .none) (s.setGen g .running))
    (hY : ∀ v s1 k lv c p fs, Y (n - 1) (s.setGen g .running) v s1 (fun r2 s2 => Seg.next (model P w) A.in1 (fun n s0 r s1 => r = .ok (.ret .none) ∧ F n s0 s1) Y n c (k r2) fs s2) → Q (some v) (s1.setGen g (.suspended k lv c p fs false)))
    (hP : ∀ s1, F n (s.setGen g .running) s1 → ∀ h', (∀ b o, s1.heap.get? b = some o → h'.get? b = some o) → Q none { s1.setGen g .finished with heap := h' }) : wpAny (model P w) A (pyNext (.ref a)) Q E s := by
  unfold pyNext
  refine wpAny_bind (wpAny_attempt (wpAny_callSpecial?_slot (name := Str.ofString "__next__") isg.typeIs slot_gen_next (wpAny_call_entry slot_gen_next isg.typeIs entry_gen_next ?_ (args_gen_next _))))
  show wpAny (model P w) A.in1 (Builtin.Generator.genWake (.ref a) (.send .none)) _ _ s
  unfold Builtin.Generator.genWake
  refine wpAny_bind (wpAny_holding (wpAny_genNumber isg (wpAny_bind (wpAny_genState (st := gs) hgs ?_))))
  cases gs with
  | running => exact hgo.elim
  | finished => exact hgo.elim
  | _ =>
    refine wpAny_bind (wpAny_roomToWake nolim deep ?_)
    show wpAny (model P w) A.in1 (.resume g (.send .none) [] _) _ _ s
    refine resume_sleep (M := model P w) hgs hgo (fun x s1 done => ?_) fun v s1 k lv c p fs y => wpAny_pure ⟨v, rfl, wpAny_pure (hY v s1 k lv c p fs y)⟩
    obtain ⟨rfl, over⟩ := done
    show wpAny (model P w) A.in1 (newExc (.type "StopIteration") [] >>= _) _ _ _
    refine wpAny_bind ?_
    unfold newExc newTuple
    refine wpAny_bind (wpAny_newObj_type ?_ (hd := by size_fits))
    refine wpAny_bind (m := firstArgMember _ _) (wpAny_of_eq (a := Value.none) (by first | rfl | (simp only [firstArgMember]; rfl)) (wpAny_newObj_type ?_ (hd := by size_fits)))
    unfold raiseNew
    refine wpAny_bind (wpAny_bind (wpAny_handled ?_))
    have h0 : A.in1.handled = none := free
    rw [h0]
    refine wpAny_throw (wpAny_bind (wpAny_isInstance (T := "StopIteration") (b := true) ⟨_, Heap.get?_push_size _ rfl, rfl⟩ isSubtype_stop (wpAny_pure ?_)))
    exact hP s1 over _ fun b o e => Heap.get?_push_of_some _ (Heap.get?_push_of_some _ e)
end
/-! ### the consumer -/
/-- a generator called from a def that runs in X -/
abbrev gOf (X : Cx) (N : List Str) (qual : Str) (scope : Scope) (L f : Addr) (cd : Value) (a : Addr) (go : Obj) (ops : List Addr) (most : Nat) : GN := GN.mk X.prog X.w X.K X.mg X.base N qual scope L f cd X.A.in1 X.stack a go ops most
/-- all that the def has is older than the generator, or among ops -/
structure By (X : Cx) (pins : List (Addr × Obj)) (L : Addr) (ops : List Addr) : Prop where
  loc : X.env.locals < L ∨ X.env.locals ∈ ops
  old : ∀ b : Addr, L ≤ b → b ∉ ops → b ∈ X.ex ∨ X.s_0.heap.objs.size ≤ b
  stk : ∀ b ∈ frs X.stack, b < L
  pin : ∀ p ∈ X.pn ++ pins, p.1 < L
  cell : ∀ x c, X.env.cells.lookup x = some c → c < L
theorem By.of {X : Cx} {pins : List (Addr × Obj)} {σ : L2.St} {H : Hp} {s : Shared} (I : Inv X pins σ H s) : By X pins s.heap.objs.size [] :=
  ⟨.inl I.lt, fun b h _ => .inr (Nat.le_trans I.sz h), fun b z => by obtain ⟨_, o, ho, _⟩ := I.env0.funs.mem z; exact Heap.lt_size ho, fun p hp => Heap.lt_size (I.pin p hp).1, fun x c e => by obtain ⟨v, o, ho, _⟩ := I.cell x c e; exact Heap.lt_size ho⟩
section
variable {X : Cx} {pins : List (Addr × Obj)} {L : Addr} {ops : List Addr}
theorem inv_gens {σ : L2.St} {H : Hp} {s : Shared} {b : Array GenState} (I : Inv X pins σ H s) (hb : AllBare b) : Inv X pins σ H { s with gens := b } := ⟨I.ok, I.os, hb, I.base, I.loc, I.cell, I.free, I.freeC, I.pin, I.hok, I.len⟩
/-- the def's state is carried over a stretch of the generator's -/
theorem By.across (y : By X pins L ops) {σ : L2.St} {H0 H1 : Hp} {s0 s1 : Shared} (I : Inv X pins σ H0 s0) (un : Un (frs X.stack) [] H0 H1 (cutS L s0).heap s1.heap) (op : ∀ p ∈ pinsAt ops s0.heap, s1.heap.get? p.1 = some p.2 ∧ H1 p.1 = none) (os : s1.os = s0.os) (bare : AllBare s1.gens) (hok : HOk X.prog X.w H1 s1.heap) : Inv X pins σ H1 s1 := by
  obtain ⟨h1, g1, d1, t1, o1⟩ := s1
  obtain rfl : o1 = s0.os := os
  have inch : ∀ b, b ∈ (List.range' L (s0.heap.objs.size - L)).filter (fun b => decide (b ∉ ops)) → L ≤ b ∧ b ∉ ops := fun b m => by
    obtain ⟨z, q⟩ := List.mem_filter.mp m
    exact ⟨(List.mem_range'_1.mp z).1, by simpa using q⟩
  have low : ∀ b o, b ∉ (List.range' L (s0.heap.objs.size - L)).filter (fun b => decide (b ∉ ops)) → s0.heap.get? b = some o → b < L ∨ (h1.get? b = some o ∧ H1 b = none) := fun b o nm e => by
    have lt : (b : Nat) < s0.heap.objs.size := Heap.lt_size e
    by_cases q : (b : Nat) < L
    · exact .inl q
    · by_cases w : b ∈ ops
      · exact .inr (op (b, o) (mem_pinsAt w e))
      · have ge : L ≤ (b : Nat) := Nat.le_of_not_lt q
        have m : b ∈ List.range' L (s0.heap.objs.size - L) := List.mem_range'_1.mpr ⟨ge, by rw [Nat.add_sub_cancel' (Nat.le_trans ge (Nat.le_of_lt lt))]; exact lt⟩
        exact absurd (List.mem_filter.mpr ⟨m, by simpa using w⟩) nm
  have nil : ∀ b : Addr, b ∉ ([] : List Addr) := fun b => List.not_mem_nil
  have far : ∀ {b c : Addr}, c < L → L ≤ b → c ≠ b := fun l1 l2 z => absurd (Nat.lt_of_lt_of_le l1 (z ▸ l2)) (Nat.lt_irrefl _)
  refine I.step (g' := g1) (d' := d1) (t' := t1) (h' := h1) (ch := (List.range' L (s0.heap.objs.size - L)).filter (fun b => decide (b ∉ ops))) (fun b hb => ⟨y.old b (inch b hb).1 (inch b hb).2, fun z => ?_, fun x c e => far (y.cell x c e) (inch b hb).1, fun p hp => far (y.pin p hp) (inch b hb).1⟩) (fun b o nl nf nc e n => ?_) (fun b o nl hf nc e n => ?_) (fun b o nc e n => ?_) (fun b o nc e => ?_) un.tups un.frzs un.tbls (fun m hm => ?_) hok bare
  · rcases y.loc with l | l
    · exact far l (inch b hb).1 z.symm
    · exact (inch b hb).2 (z ▸ l)
  · rcases low b o nc e with l | l
    · exact un.keep b o (get_cut l e) n (fun z => (List.mem_cons.mp (I.stkSub b z)).elim nl nf) (nil b)
    · exact l.1
  · rcases low b o nc e with l | l
    · exact un.any (get_cut l e) n (nil b)
    · exact ⟨o.slots, l.1⟩
  · rcases low b o nc e with l | l
    · exact un.free b o (get_cut l e) n (nil b)
    · exact l.2
  · rcases low b o nc e with l | l
    · exact un.there b o (get_cut l e) (nil b)
    · exact ⟨o, l.1⟩
  · obtain ⟨o, es, ep, ho, r⟩ := hm
    rcases y.loc with l | l
    · obtain ⟨sl, e⟩ := un.any (get_cut l ho) I.free (nil _)
      exact ⟨_, es, ep, e, r⟩
    · exact ⟨_, es, ep, (op _ (mem_pinsAt l ho)).1, r⟩
variable {N : List Str} {qual : Str} {scope : Scope} {f a : Addr} {cd : Value} {go : Obj} {most : Nat}
def TkX (X : Cx) (pins : List (Addr × Obj)) (L : Addr) (ops : List Addr) (Rd : Nat → Hp → L2.St → Hp → Shared → Prop) : Nat → Shared → Hp → Prop := fun j s H => (L ≤ s.heap.objs.size ∧ Ow ops s H) ∧ ∃ σ Hy, Inv X pins σ H s ∧ Rd j Hy σ H s
/-- the generator stands at j, n turns at most are left -/
def Live (X : Cx) (G : GN) (g : Nat) (Tk : Nat → Shared → Hp → Prop) (rs : Nat → Hp → Hp → Prop) (yl : Nat → Hp → V → Hp → Prop) (en : Nat → Hp → Hp → Prop) (gs : GenState) (ip : List (Addr × Obj)) (n j : Nat) (Hy : Hp) (s : Shared) (H : Hp) : Prop :=
  s.gens[g]? = some gs ∧ (∀ p ∈ ip, G.L ≤ p.1 ∧ p.1 ∉ G.ops) ∧ s.heap.get? G.a = some G.go ∧ (∀ h : Heap, h.get? G.a = some G.go → h.IsGen G.a g) ∧ ∃ sy : Shared, (∀ b, b = G.L ∨ b = G.a ∨ b ∈ ip.map (·.1) → ∃ o, sy.heap.get? b = some o ∧ s.heap.get? b = some o ∧ H b = none ∧ ∀ v, o.data ≠ .cell v) ∧
    ∀ s' H', Tk j s' H' → rs j Hy H' → G.E0 s' H' → Kp G ip sy s' H' → gs.Goes (model X.prog X.w) X.A.in1 (HR G Tk en) (HY G Tk yl rs) n (.send .none) s'
theorem env0_in1 {σ : L2.St} {H : Hp} {s : Shared} (I : Inv X pins σ H s) : Env0 X.prog X.w X.K X.mg X.base X.A.in1 X.stack s H :=
  ⟨I.ok.frames, I.env0.mod, I.env0.bs, I.env0.bsz, I.env0.funs, I.env0.frf, I.env0.hok, I.env0.bare⟩
theorem live_turn {E : Value → Shared → Prop} {g n j : Nat} {gs : GenState} {ip : List (Addr × Obj)} {σ : L2.St} {Hy H : Hp} {s : Shared} {Rd : Nat → Hp → L2.St → Hp → Shared → Prop} {rs : Nat → Hp → Hp → Prop} {yl : Nat → Hp → V → Hp → Prop} {en : Nat → Hp → Hp → Prop}
    (y : By X pins L ops) (free : X.A.handled = none) (deep : X.A.depth < recursionLimit) (ok : (gOf X N qual scope L f cd a go ops most).Ok) (I : Inv X pins σ H s) (r0 : Rd j Hy σ H s) (hrs : rs j Hy H) (rgen : ∀ j Hy σ H s gens, Rd j Hy σ H s → Rd j Hy σ H { s with gens := gens }) (hn : n + j = most) (h1 : 1 ≤ n) (lt : L ≤ s.heap.objs.size ∧ Ow ops s H)
    (lv : Live X (gOf X N qual scope L f cd a go ops most) g (TkX X pins L ops Rd) rs yl en gs ip n j Hy s H) :
    wpAny (model X.prog X.w) X.A (pyNext (.ref a)) (fun r s1 => (r = none ∧ ∃ σ0 Hz H0 H1 s0, Rd j Hz σ0 H0 s0 ∧ en j H0 H1 ∧ Inv X pins σ0 H1 s1 ∧ ∀ p ∈ pinsAt ops s0.heap, s1.heap.get? p.1 = some p.2 ∧ H1 p.1 = none) ∨ ∃ u, r = some u ∧ ∃ x σ0 Hz H0 H1 s0, RelV x u ∧ Rd j Hz σ0 H0 s0 ∧ yl j H0 x H1 ∧ Inv X pins σ0 H1 s1 ∧ (∀ p ∈ pinsAt ops s0.heap, s1.heap.get? p.1 = some p.2 ∧ H1 p.1 = none) ∧ L ≤ s1.heap.objs.size ∧ 1 ≤ n - 1 ∧
      ∃ k lv c p fs ip', Live X (gOf X N qual scope L f cd a go ops most) g (TkX X pins L ops Rd) rs yl en (.suspended k lv c p fs false) ip' (n - 1) (j + 1) H1 s1 H1) E s := by
  obtain ⟨hgs, hip, hgo, isg, sy, own, goes⟩ := lv
  have hgl : g < s.gens.size := (Array.getElem?_eq_some_iff.mp hgs).1
  have Ir : Inv X pins σ H (s.setGen g .running) := inv_gens I (allBare_setGen I.bare rfl)
  have go1 := goes (s.setGen g .running) H ⟨lt, σ, Hy, Ir, rgen _ _ _ _ _ _ r0⟩ hrs (env0_in1 Ir) fun b hb => by
    obtain ⟨o, e1, e2, e3, _⟩ := own b hb
    exact ⟨fun o' e => by rw [e1] at e; cases e; exact e2, e3⟩
  refine wpAny_gsz (n := g + 1) hgl (next_sleep free I.nolimit deep (isg _ hgo) hgs go1 (fun v s1 k lv c p fs hy => ?_) fun s1 hf h' hk => ?_)
  · intro hsz
    obtain ⟨j', x, ip', σg, H0, H1, hj, h2, hip', rv, ⟨_, σ0, Hz, I0, r1⟩, hyl, Ig, wake⟩ := hy
    have hj : n - 1 + 1 + j' = most := hj
    obtain rfl : j' = j := by omega
    have op : ∀ p ∈ pinsAt ops (s.setGen g .running).heap, s1.heap.get? p.1 = some p.2 ∧ H1 p.1 = none := fun p hp => by
      obtain ⟨z1, z2, _⟩ := Ig.pin p (List.mem_append_left _ (List.mem_cons_of_mem _ hp))
      exact ⟨z1, z2⟩
    have I1 : Inv X pins σ0 H1 s1 := y.across I0 Ig.base op Ig.os Ig.bare Ig.hok
    have Lb : ∀ b, b = L ∨ b = a ∨ b ∈ ip'.map (·.1) → ∃ o, s1.heap.get? b = some o ∧ s1.heap.get? b = some o ∧ H1 b = none ∧ ∀ v, o.data ≠ .cell v := fun b hb => by
      rcases hb with rfl | rfl | hb
      · obtain ⟨m, ⟨o, es, ep, ho, hd, _⟩, _⟩ := Ig.loc
        exact ⟨o, ho, ho, Ig.free, fun v q => by rw [hd] at q; cases q⟩
      · obtain ⟨z1, z2, _, _, z5⟩ := Ig.pin (b, go) (List.mem_append_left _ List.mem_cons_self)
        exact ⟨go, z1, z1, z2, z5⟩
      · obtain ⟨p, mp, rfl⟩ := List.mem_map.mp hb
        obtain ⟨z1, z2, _, _, z5⟩ := Ig.pin p (List.mem_append_right _ mp)
        exact ⟨p.2, z1, z1, z2, z5⟩
    have ltL : L ≤ s1.heap.objs.size := by
      obtain ⟨o, z, _⟩ := Lb L (.inl rfl)
      exact Nat.le_of_lt (Heap.lt_size z)
    have hsz1 : g < s1.gens.size := by
      have q : (s1.setGen g (.suspended k lv c p fs false)).gens.size = s1.gens.size := setGen_size _ _ _
      have hsz' : g + 1 ≤ (s1.setGen g (.suspended k lv c p fs false)).gens.size := hsz
      omega
    refine .inr ⟨v, rfl, x, σ0, Hz, H0, H1, _, rv, r1, hyl, inv_gens I1 (allBare_setGen I1.bare rfl), op, ltL, h2, k, lv, c, p, fs, ip', setGen_at hsz1, hip', ?_, isg, s1, Lb, fun s' H' tk r e0 kp => ?_⟩
    · obtain ⟨z1, _⟩ := Ig.pin (a, go) (List.mem_append_left _ List.mem_cons_self)
      exact z1
    · have z := wake s' H' tk r e0 kp
      cases n with
      | zero => exact absurd h1 (Nat.not_succ_le_zero _)
      | succ m => exact z
  · intro hsz
    obtain ⟨j', H0, H1, hj, ⟨_, σ0, Hz, I0, r1⟩, hen, os, bare, un, hok, op⟩ := hf
    have hj : n + j' = most := hj
    obtain rfl : j' = j := by omega
    have I1 : Inv X pins σ0 H1 s1 := y.across I0 un op os bare hok
    have I2 : Inv X pins σ0 H1 (s1.setGen g .finished) := inv_gens I1 (allBare_setGen I1.bare rfl)
    exact .inl ⟨rfl, σ0, Hz, H0, H1, _, r1, hen, I2.kept hk, fun p hp => ⟨hk _ _ (op p hp).1, (op p hp).2⟩⟩
end
/-! ### calls that give a generator -/
/-- what is read of such a call: R: what is wanted of its consumer's choice and the heap -/
abbrev TGen := L2.St → Hp → ((Nat → Hp → Hp → Prop) → (Nat → Hp → V → Hp → Prop) → (Nat → Hp → Hp → Prop) → Hp → Prop) → Prop
structure PH (X : Cx) (e : Expr) (k most : Nat) (t : TGen) : Prop where
  run : ∀ (pins : List (Addr × Obj)) (s : Shared) (σ : L2.St) (H : Hp) (R : (Nat → Hp → Hp → Prop) → (Nat → Hp → V → Hp → Prop) → (Nat → Hp → Hp → Prop) → Hp → Prop), Inv X pins σ H s → t σ H R →
    wpAny (model X.prog X.w) X.A (eval e X.env) (fun u s1 => ∃ rs yl en H1 s0, R rs yl en H1 ∧ Inv X pins σ H1 s0 ∧ HMade X.prog X.w X.K X.mg X.base k most X.stack s0 H1 rs yl en u s1) X.xe s
section
variable {X : Cx} {k most : Nat}
theorem run_h {f : Addr} {fd : FuncData} {ps : List Str} {sp : SpH} {pins : List (Addr × Obj)} {σ : L2.St} {H : Hp} {s : Shared} {us : List Value} {kws : List (Str × Value)} {vs : List V} {rs : Nat → Hp → Hp → Prop} {yl : Nat → Hp → V → Hp → Prop} {en : Nat → Hp → Hp → Prop} {as : List Value}
    (F : HFn X.prog X.w X.K X.mg X.base k most f fd ps sp) (room : Room k X.A) (I : Inv X pins σ H s) (b : BindsTo s fd ⟨us, kws⟩ (ps.zip as)) (r : Vals vs as) (h : sp vs H rs yl en) :
    wpAny (model X.prog X.w) X.A (call (.ref f) us kws) (fun u s1 => HMade X.prog X.w X.K X.mg X.base k most X.stack s H rs yl en u s1) X.xe s := by
  refine wpAny_call (codeAny_mono (F.run X.A X.stack s H ⟨us, kws⟩ as vs rs yl en room I.env0 b r h) fun res s1 q => ?_)
  cases res with
  | error e => exact q.elim
  | ok fl => cases fl <;> first | exact q | exact q.elim
structure CalleeHM (P : Program) (w : World) (K : PySem.W.Frag) (mg : Str → Option Value) (base : Heap) (k most : Nat) (C : Addr) (m : Str) (ps : List Str) (sp : SpH) : Prop where
  ex : ∃ (f : Addr) (fd : FuncData), HFn P w K mg base k most f fd ps sp ∧ Meth K C m f ∧ Binds K fd ps []
  cl : Cls K C
structure CalleeH (P : Program) (w : World) (K : PySem.W.Frag) (mg : Str → Option Value) (base : Heap) (k most : Nat) (x : Str) (ps : List Str) (sp : SpH) (n : Nat) (ks : List Str) (gV : List V → List V → List V) : Prop where
  ex : ∃ (f : Addr) (fd : FuncData) (gg : List Value → List Value → List Value), HFn P w K mg base k most f fd ps sp ∧ mg x = some (.ref f) ∧ PySem.W.keepIn K (.ref f) = true ∧ KBn K fd ps n ks gg gV
/-- o.m() -/
def tHMeth (C : Addr) (m : Str) (sp : SpH) (ta : TE) : TGen := fun σ H R => ta σ H fun x H1 => ∃ a dx fs, x = .ref a ∧ H1 a = some (.ins C dx fs) ∧ fs.lookup m = none ∧ ∃ rs yl en, sp [x] H1 rs yl en ∧ R rs yl en H1
theorem ph_meth0 {pl : Sem Bool} {C : Addr} {m : Str} {ps : List Str} {sp : SpH} {o : Expr} {apos pos : Pos} {ta : TE} (c : CalleeHM X.prog X.w X.K X.mg X.base k most C m ps sp) (he : PE X o ta) (room : Room k X.A)
    (ht : eval (.Call (.Attribute o m apos) [] [] pos) X.env = (do
      let ov ← eval o X.env
      standAt apos.atName
      let (f, first) ← holding [ov] (getMethod ov m pl)
      callWith pos f first (backTo pos (starEach [] X.env)) (backToKw pos (keywordEach [] X.env))) := by rfl) : PH X (.Call (.Attribute o m apos) [] [] pos) k most (tHMeth C m sp ta) := by
  obtain ⟨f, fd, F, hm, hb⟩ := c.ex
  refine ⟨fun pins s σ H R I h => PySem.W.methodCall_KW (pl := pl) (thn (he.run pins s σ H _ I h) fun u s1 z => ?_) ht⟩
  obtain ⟨x, H1, I1, rx, a, dx, fs, rfl, ea, no, rs, yl, en, hsp, q⟩ := z
  obtain rfl : u = Value.ref a := rx
  refine getmeth_ok I1 ea c.cl hm no (PySem.W.callWith_K0 (first := [.ref a]) I1.kIn hm.kp ?_)
  have bnd := hb s1 [.ref a] I1.kIn (by rw [List.append_nil]; exact F.len _ _ _ _ _ hsp)
  rw [List.append_nil] at bnd
  exact wpAny_mono (run_h (vs := [.ref a]) F room I1 bnd (.cons rfl .nil) hsp) (fun u s2 m => ⟨rs, yl, en, H1, s1, q, I1, m⟩) fun _ _ z => z
/-- f(e, .., k = v, ..) -/
def tHCall (n m : Nat) (sp : SpH) (gV : List V → List V → List V) (t tk : TA) : TGen := fun σ H R => t σ H fun vs H1 => tk σ H1 fun zs H2 => vs.length = n ∧ zs.length = m ∧ ∃ rs yl en, sp (gV vs zs) H2 rs yl en ∧ R rs yl en H2
theorem ph_callKw {n : Nat} {x : Str} {ps ks : List Str} {sp : SpH} {gV : List V → List V → List V} {e : Expr} {es : List Expr} {kws : List Keyword} {p pos : Pos} {t tk : TA} (c : CalleeH X.prog X.w X.K X.mg X.base k most x ps sp n ks gV) (room : Room k X.A) (hg : Gl X x) (ha : PA X (e :: es) t) (hkw : PK X kws tk)
    (hall : (backToKw pos (keywordEach kws X.env)).all (·.1.isSome) = true := by rfl) (hks : (backToKw pos (keywordEach kws X.env)).filterMap (·.1) = ks := by rfl) (hdb : (x == ("__debug__" : Str)) = false := by decide) (he : starEach (e :: es) X.env = (false, eval e X.env) :: starEach es X.env := by rfl)
    (hpl : ((backTo pos (starEach (e :: es) X.env)).any (·.1) || (backToKw pos (keywordEach kws X.env)).any (·.1.isNone)) = false := by rfl) : PH X (.Call (.Name x p) (e :: es) kws pos) k most (tHCall n ks.length sp gV t tk) := by
  obtain ⟨f, fd, gg, F, hm, hk, hb⟩ := c.ex
  refine ⟨fun pins s σ H R I h => wpAny_Call_Name_kw (ld_glob I hg hm ?_ hdb)⟩
  refine PySem.W.callWith_KW (h₀ := X.base) I.ok.mod.kin hk hall (thn (ha.run pos pins s σ H _ I h) fun us s1 z => ?_) hpl he
  obtain ⟨vs, H1, I1, r, q⟩ := z
  refine thn (hkw.run pos pins s1 σ H1 _ I1 q) fun ws s2 z => ?_
  obtain ⟨zs, H2, I2, rz, l1, l2, rs, yl, en, hsp, q2⟩ := z
  refine ⟨I2.kIn, ?_⟩
  rw [hks]
  exact wpAny_mono (run_h F room I2 (hb.to s2 us ws I2.kIn (r.length.symm.trans l1) (rz.length.symm.trans l2)) (hb.rel r rz) hsp) (fun u s3 m => ⟨rs, yl, en, H2, s2, q2, I2, m⟩) fun _ _ z => z
theorem ph_callK0 {n : Nat} {x : Str} {ps ks : List Str} {sp : SpH} {gV : List V → List V → List V} {kws : List Keyword} {p pos : Pos} {tk : TA} (c : CalleeH X.prog X.w X.K X.mg X.base k most x ps sp n ks gV) (room : Room k X.A) (hg : Gl X x) (hkw : PK X kws tk)
    (hall : (backToKw pos (keywordEach kws X.env)).all (·.1.isSome) = true := by rfl) (hks : (backToKw pos (keywordEach kws X.env)).filterMap (·.1) = ks := by rfl) (hdb : (x == ("__debug__" : Str)) = false := by decide)
    (hpl : ((backTo pos (starEach [] X.env)).any (·.1) || (backToKw pos (keywordEach kws X.env)).any (·.1.isNone)) = false := by rfl) : PH X (.Call (.Name x p) [] kws pos) k most (tHCall n ks.length sp gV tNil tk) := by
  obtain ⟨f, fd, gg, F, hm, hk, hb⟩ := c.ex
  refine ⟨fun pins s σ H R I h => wpAny_Call_Name_kw (ld_glob I hg hm ?_ hdb)⟩
  refine PySem.W.callWith_KW0 (first := []) (h₀ := X.base) I.ok.mod.kin hk hall (thn (hkw.run pos pins s σ H _ I h) fun ws s2 z => ?_) hpl
  obtain ⟨zs, H2, I2, rz, l1, l2, rs, yl, en, hsp, q2⟩ := z
  refine ⟨I2.kIn, ?_⟩
  rw [hks]
  exact wpAny_mono (run_h F room I2 (hb.to s2 [] ws I2.kIn l1 (rz.length.symm.trans l2)) (hb.rel .nil rz) hsp) (fun u s3 m => ⟨rs, yl, en, H2, s2, q2, I2, m⟩) fun _ _ z => z
end
/-! ### for x in g(..) -/
/-- what is let out does not look at the generators -/
def XStable (X : Cx) : Prop := ∀ (e : Value) (s : Shared) (b : Array GenState), X.xe e s → OkG s.gens → Rel s.gens b → X.xe e { s with gens := b }
theorem xs_nox {X : Cx} : XStable X.nox := fun e s b h _ _ => h
def tForH (t : TGen) (g : TG) (tb : TS) : TS := fun D σ H => ∃ Rd : Nat → Hp → L2.St → Hp → Prop, t σ H fun rs yl en H1 => Rd 0 H1 σ H1 ∧ (∀ j Hy σ H, Rd j Hy σ H → rs j Hy H) ∧
  (∀ j Hy σ H0 x H', Rd j Hy σ H0 → yl j H0 x H' → g x σ H' fun σ2 H2 => tb { D with nx := Rd (j + 1) H', ct := Rd (j + 1) H', bk := D.nx } σ2 H2) ∧ ∀ j Hy σ H0 H', Rd j Hy σ H0 → en j H0 H' → D.nx σ H'
section
variable {X : Cx} {k most : Nat}
/-- the sleeper's own objects, pinned -/
theorem own_pins {pins : List (Addr × Obj)} {L : Addr} {G : GN} {g n j : Nat} {Tk : Nat → Shared → Hp → Prop} {rs : Nat → Hp → Hp → Prop} {yl : Nat → Hp → V → Hp → Prop} {en : Nat → Hp → Hp → Prop} {gs : GenState} {ip : List (Addr × Obj)} {σ : L2.St} {Hy H : Hp} {s : Shared}
    (y : By X pins G.L G.ops) (al : G.L < G.a) (an : G.L ∉ G.ops ∧ G.a ∉ G.ops) (I : Inv X pins σ H s) (lv : Live X G g Tk rs yl en gs ip n j Hy s H) : Inv X (pins ++ pinsAt (G.L :: G.a :: ip.map (·.1)) s.heap) σ H s := by
  obtain ⟨_, hip, _, _, sy, own, _⟩ := lv
  refine I.pins_of fun p hp => ?_
  rcases List.mem_append.mp hp with hp | hp
  · exact I.pin p (List.mem_append_right _ hp)
  · obtain ⟨hb, e⟩ := of_pinsAt hp
    have hb' : p.1 = G.L ∨ p.1 = G.a ∨ p.1 ∈ ip.map (·.1) := by simpa using hb
    obtain ⟨o, _, e2, n2, d⟩ := own p.1 hb'
    rw [e2] at e
    cases e
    have ge : G.L ≤ p.1 := by
      rcases hb' with z | z | z
      · exact Nat.le_of_eq z.symm
      · rw [z]; exact Nat.le_of_lt al
      · obtain ⟨q, hq, z⟩ := List.mem_map.mp z
        rw [← z]; exact (hip q hq).1
    have no : p.1 ∉ G.ops := by
      rcases hb' with z | z | z
      · rw [z]; exact an.1
      · rw [z]; exact an.2
      · obtain ⟨q, hq, z⟩ := List.mem_map.mp z
        rw [← z]; exact (hip q hq).2
    refine ⟨e2, n2, fun z => ?_, fun z => ?_, d⟩
    · rw [z] at ge no
      rcases y.loc with l | l
      · exact absurd (Nat.lt_of_lt_of_le l ge) (Nat.lt_irrefl _)
      · exact no l
    · obtain ⟨_, o3, ho3, _⟩ := I.ok.funs.mem z
      have old : p.1 < X.s_0.heap.objs.size := Heap.lt_size ho3
      rcases y.old p.1 ge no with q | q
      · exact I.ok.exfs _ q z
      · exact absurd (Nat.lt_of_lt_of_le old q) (Nat.lt_irrefl _)
/-- the sleeper behind another's run -/
theorem live_on {pins : List (Addr × Obj)} {G : GN} {g n j : Nat} {Tk : Nat → Shared → Hp → Prop} {rs : Nat → Hp → Hp → Prop} {yl : Nat → Hp → V → Hp → Prop} {en : Nat → Hp → Hp → Prop} {kk : Resume → Sem PySem.Fin} {lv : List Value} {c : Code} {p : Pos} {fs : List Frame} {ip : List (Addr × Obj)} {σ7 : L2.St} {Hy H H7 : Hp} {s s7 : Shared}
    (sg : SameGens s.gens s7.gens) (I7 : Inv X (pins ++ pinsAt (G.L :: G.a :: ip.map (·.1)) s.heap) σ7 H7 s7) (z : Live X G g Tk rs yl en (.suspended kk lv c p fs false) ip n j Hy s H) : Live X G g Tk rs yl en (.suspended kk lv c p fs false) ip n j Hy s7 H7 ∧ G.L ≤ s7.heap.objs.size := by
  obtain ⟨hgs, hip, hgo, isg, sy, own, goes⟩ := z
  have at7 : ∀ b, b = G.L ∨ b = G.a ∨ b ∈ ip.map (·.1) → ∀ o, s.heap.get? b = some o → s7.heap.get? b = some o ∧ H7 b = none := fun b hb o e => by
    have hm : b ∈ G.L :: G.a :: ip.map (·.1) := by simpa using hb
    have w := I7.pin (b, o) (List.mem_append_right _ (List.mem_append_right _ (mem_pinsAt hm e)))
    exact ⟨w.1, w.2.1⟩
  refine ⟨⟨sg _ _ _ _ _ _ _ hgs, hip, (at7 G.a (.inr (.inl rfl)) _ hgo).1, isg, sy, fun b hb => ?_, goes⟩, ?_⟩
  · obtain ⟨o, e1, e2, _, d⟩ := own b hb
    obtain ⟨e3, n3⟩ := at7 b hb o e2
    exact ⟨o, e1, e3, n3, d⟩
  · obtain ⟨o, _, e2, _⟩ := own G.L (.inl rfl)
    exact Nat.le_of_lt (Heap.lt_size (at7 G.L (.inl rfl) o e2).1)
theorem ps_forH {tg iter : Expr} {body : List Stmt} {t : TGen} {g : TG} {tb : TS} {pos : Pos} (hp : PassesOwn (model X.prog X.w) X.A X.env X.xe) (xs : XStable X) (h1 : 1 ≤ most) (room : Room (k + 1) X.A) (hi : PH X iter k most t) (hg : PG X tg g) (hb : PSs X body tb)
    (hs : ∀ x, foldedSetIterable iter X.env x = pure x := by intro _; rfl) : PS X (.For tg iter body [] pos) (tForH t g tb) := by
  refine ⟨fun pins s σ H D I h => ?_⟩
  obtain ⟨Rd, h⟩ := h
  refine wpAny_For (thn (hi.run pins s σ H _ I h) fun u s1 z => ?_) hs
  obtain ⟨rs, yl, en, H1, s0, ⟨r0, hrs, hyl, hen⟩, I0, m⟩ := z
  obtain ⟨N, qual, scope, f, cd, a, g', go, c, rfl, al, hgo, isg, god, hgs, os, bare, ⟨oL, hL, oLd⟩, keep, wake⟩ := m
  refine wpAny_pyIter_gen (isg _ hgo) ?_
  have y := By.of I0
  have I1 : Inv X pins σ H1 s1 := I0.call' (ch := []) os (Un.kept keep) (I0.hok.kept keep) bare (fun b z => absurd z List.not_mem_nil)
  obtain ⟨ok, wake⟩ := wake X.A.in1 [] (TkX X pins s0.heap.objs.size [] fun j Hy σ H _ => Rd j Hy σ H) room.in1 I0.ok.frames (fun b z => absurd z List.not_mem_nil) (fun j s2 H2 z => z.1)
  have lt : s0.heap.objs.size ≤ s1.heap.objs.size := Nat.le_of_lt (Heap.lt_size hL)
  have ow0 : ∀ (s : Shared) (H : Hp), Ow [] s H := fun s H b z => absurd z List.not_mem_nil
  have lv : Live X (gOf X N qual scope s0.heap.objs.size f cd a go [] most) g' (TkX X pins s0.heap.objs.size [] fun j Hy σ H _ => Rd j Hy σ H) rs yl en (.fresh c) [] most 0 H1 s1 H1 := by
    refine ⟨hgs, fun p hp => absurd hp List.not_mem_nil, hgo, isg, s1, fun b hb => ?_, fun s' H' tk r e0 kp => ⟨rfl, wake s' H' tk r e0 kp⟩⟩
    rcases hb with rfl | rfl | hb
    · exact ⟨oL, hL, hL, I0.hok.fresh (Nat.le_refl _), oLd⟩
    · exact ⟨go, hgo, hgo, I0.hok.fresh (Nat.le_of_lt al), god⟩
    · exact absurd hb List.not_mem_nil
  refine codeAny_forLoop_any (fun n s' => ∃ j gs ip σ' Hy H', n + j = most ∧ 1 ≤ n ∧ s0.heap.objs.size ≤ s'.heap.objs.size ∧ Inv X pins σ' H' s' ∧ Rd j Hy σ' H' ∧ Live X (gOf X N qual scope s0.heap.objs.size f cd a go [] most) g' (TkX X pins s0.heap.objs.size [] fun j Hy σ H _ => Rd j Hy σ H) rs yl en gs ip n j Hy s' H') ?_ most ⟨0, .fresh c, [], σ, H1, H1, Nat.add_zero _, h1, lt, I1, r0, lv⟩
  rintro n s3 ⟨j, gs, ip, σ3, Hy3, H3, hn, hn1, lt3, I3, r3, lv3⟩
  refine wpAny_mono (live_turn (Rd := fun j Hy σ H _ => Rd j Hy σ H) y room.hd room.depth ok I3 r3 (hrs _ _ _ _ r3) (fun _ _ _ _ _ _ z => z) hn hn1 ⟨lt3, ow0 _ _⟩ lv3) (fun r s4 q => ?_) fun _ _ z => z
  rcases q with ⟨rfl, σ0, Hz, H0, H4, _, r4, e4, I4, _⟩ | ⟨u, rfl, x, σ0, Hz, H0, H4, _, rv, r4, y4, I4, _, lt4, n4, k', lv', c', p', fs', ip', L4⟩
  · exact wpAny_execs_nil ⟨σ0, H4, I4, hen j Hz σ0 H0 H4 r4 e4⟩
  · obtain ⟨oi, nm, qn, hoi, hcl, hdt, _⟩ := isg _ L4.2.2.1
    refine go_of (n := "generator") hoi hcl hdt rfl ?_
    have Ip := own_pins (L := s0.heap.objs.size) (G := gOf X N qual scope s0.heap.objs.size f cd a go [] most) y al ⟨List.not_mem_nil, List.not_mem_nil⟩ I4 L4
    have out : ∀ (e : Value) (sx : Shared) (gens : Array GenState), (∃ s', X.xe e s' ∧ OkG s'.gens ∧ Rel s'.gens sx.gens ∧ sx = { s' with gens := sx.gens } ∧ SameGens gens sx.gens) → X.xe e sx := fun e sx gens z => by
      obtain ⟨s', hx, okg, rl, ex, _⟩ := z
      rw [ex]
      exact xs e s' _ hx okg rl
    refine wpAny_passesOwn hp (wpAny_mono (wpAny_keep (hg.run _ { s4 with gens := s4.gens.map asleep } σ0 H4 x u _ (inv_gens Ip (asleep_all Ip.bare)) rv (hyl j Hz σ0 H0 x H4 r4 y4))) (fun _ s6 z => ?_) fun e s6 z => out e s6 _ z)
    obtain ⟨s', ⟨σ6, H6, I6, q6⟩, _, rl6, e6, sg6⟩ := z
    have J6 : Inv X (pins ++ pinsAt (s0.heap.objs.size :: a :: ip'.map (·.1)) s4.heap) σ6 H6 s6 := e6 ▸ inv_gens I6 (rl6.bare I6.bare)
    refine wpAny_passesOwn hp (wpAny_mono (wpAny_keep (hb.run _ { s6 with gens := s6.gens.map asleep } σ6 H6 _ (inv_gens J6 (asleep_all J6.bare)) q6)) (fun fl s7 z => ?_) fun e s7 z => out e s7 _ z)
    obtain ⟨s'', hsp, _, rl7, e7, sg7⟩ := z
    have to7 : ∀ {σ7 : L2.St} {H7 : Hp}, Inv X (pins ++ pinsAt (s0.heap.objs.size :: a :: ip'.map (·.1)) s4.heap) σ7 H7 s'' → Inv X (pins ++ pinsAt (s0.heap.objs.size :: a :: ip'.map (·.1)) s4.heap) σ7 H7 s7 := fun {σ7 H7} I7 => e7 ▸ inv_gens I7 (rl7.bare I7.bare)
    have again : ∀ {σ7 : L2.St} {H7 : Hp}, Inv X (pins ++ pinsAt (s0.heap.objs.size :: a :: ip'.map (·.1)) s4.heap) σ7 H7 s'' → Rd (j + 1) H4 σ7 H7 → ∃ m, m < n ∧ ∃ j gs ip σ' Hy H', m + j = most ∧ 1 ≤ m ∧ s0.heap.objs.size ≤ s7.heap.objs.size ∧ Inv X pins σ' H' s7 ∧ Rd j Hy σ' H' ∧
        Live X (gOf X N qual scope s0.heap.objs.size f cd a go [] most) g' (TkX X pins s0.heap.objs.size [] fun j Hy σ H _ => Rd j Hy σ H) rs yl en gs ip m j Hy s7 H' := fun {σ7 H7} I7 n7 => by
      obtain ⟨L7, lt7⟩ := live_on (sg6.trans sg7) (to7 I7) L4
      exact ⟨n - 1, by omega, j + 1, _, ip', σ7, H4, H7, by omega, n4, lt7, (to7 I7).unpinned, n7, L7⟩
    cases fl with
    | next => obtain ⟨σ7, H7, I7, n7⟩ := hsp; exact again I7 n7
    | cont => obtain ⟨σ7, H7, I7, n7⟩ := hsp; exact again I7 n7
    | brk => obtain ⟨σ7, H7, I7, n7⟩ := hsp; exact ⟨σ7, H7, (to7 I7).unpinned, n7⟩
    | ret v => obtain ⟨x7, σ7, H7, I7, r7, n7⟩ := hsp; exact ⟨x7, σ7, H7, (to7 I7).unpinned, r7, n7⟩
end
end KH

/-! KH4: list comprehensions over a generator that a call gives. -/
namespace KH
open PySem PySem.Spec PyProof.Rows L2 GenW
/-! ### a list set aside and taken up again -/
/-- the heap without what stands at D -/
def wo (H : Hp) (D : Addr) : Hp := fun b => if b = D then none else H b
theorem wo_same {H : Hp} {D : Addr} : wo H D D = none := by unfold wo; rw [if_pos rfl]
theorem wo_ne {H : Hp} {D b : Addr} (h : b ≠ D) : wo H D b = H b := by unfold wo; rw [if_neg h]
theorem wo_upd {H : Hp} {D : Addr} {o : HO} (h : H D = none) : wo (upd H D o) D = H := by
  funext b
  by_cases hb : b = D
  · subst hb; rw [wo_same, h]
  · rw [wo_ne hb, upd_ne hb]
section
variable {X : Cx} {pins : List (Addr × Obj)} {σ : L2.St} {H : Hp} {s : Shared} {D : Addr}
theorem wo_lst {xs : List V} : wo (upd H D (.lst xs)) D = wo H D := by
  funext b
  by_cases hb : b = D
  · subst hb; rw [wo_same, wo_same]
  · rw [wo_ne hb, wo_ne hb, upd_ne hb]
theorem wo_none {b : Addr} (e : H b = Option.none) : wo H D b = Option.none := by
  by_cases hb : b = D
  · rw [hb]; exact wo_same
  · rw [wo_ne hb]; exact e
theorem aside {xs : List V} (I : Inv X pins σ H s) (h : H D = some (.lst xs)) : Inv X pins σ (wo H D) s := by
  have far : ∀ b u, H b = some u → (∀ zs, u ≠ .lst zs) → wo H D b = some u := fun b u e nl => by
    by_cases hb : b = D
    · subst hb
      rw [h] at e
      cases e
      exact absurd rfl (nl xs)
    · rw [wo_ne hb]; exact e
  have ok : HOk X.prog X.w (wo H D) s.heap := fun b u e => by
    by_cases hb : b = D
    · subst hb; rw [wo_same] at e; cases e
    · rw [wo_ne hb] at e
      exact (I.hok b u e).stay (fun _ _ _ z => z) (fun c z => far c _ z (fun _ w => by cases w)) fun c ys z => far c _ z (fun _ w => by cases w)
  refine I.un (h' := s.heap) (t' := s.toks) { keep := fun _ _ e _ _ _ => e, slot := fun b o e _ _ _ => ⟨o.slots, e⟩, free := fun b _ _ z _ => wo_none z, there := fun b o e _ => ⟨o, e⟩, tups := fun b ys z => far b _ z (fun _ w => by cases w), frzs := fun b o y z => far b _ z (fun _ w => by cases w), tbls := fun b ps z => ⟨#[], ?_⟩ } ok
  rw [far b _ z (fun _ w => by cases w)]
  simp
theorem taken {xs : List V} (I : Inv X pins σ H s) (hn : H D = Option.none) (h0 : X.H_0 D ≠ Option.none) (hL : X.env.locals ≠ D) (hc : ∀ x c, X.env.cells.lookup x = some c → c ≠ D) (hp : ∀ p ∈ X.pn ++ pins, p.1 ≠ D) (at_ : ∀ H', ObjOk X.prog X.w H' s.heap D (.lst xs)) : Inv X pins σ (upd H D (.lst xs)) s := by
  have stays : ∀ {b u}, H b = some u → upd H D (.lst xs) b = some u := fun {b u} e => by rw [upd_ne (ne_of_none e hn)]; exact e
  have ok : HOk X.prog X.w (upd H D (.lst xs)) s.heap := fun b u e => by
    by_cases hb : b = D
    · subst hb; rw [upd_same] at e; cases e; exact at_ _
    · rw [upd_ne hb] at e
      exact (I.hok b u e).stay (fun _ _ _ z => z) (fun c z => stays z) fun c ys z => stays z
  refine ⟨I.ok, I.os, I.bare, ⟨I.base.keep, I.base.slot, fun b o e n x => ?_, I.base.there, fun b ys e => stays (I.base.tups b ys e), fun b o y e => stays (I.base.frzs b o y e), fun b ps e => ?_⟩, I.loc, I.cell, ?_, fun x c e => ?_, fun p m => ?_, ok, I.len⟩
  · have ne : b ≠ D := fun z => h0 (by rw [← z]; exact n)
    rw [upd_ne ne]
    exact I.base.free b o e n x
  · obtain ⟨more, q⟩ := I.base.tbls b ps e
    exact ⟨more, stays q⟩
  · rw [upd_ne hL]; exact I.free
  · rw [upd_ne (hc x c e)]; exact I.freeC x c e
  · obtain ⟨z1, z2, z3⟩ := I.pin p m
    exact ⟨z1, by rw [upd_ne (hp p m)]; exact z2, z3⟩
end
/-- a part of the consumer's turn, while the sleepers sleep on -/
theorem keepS {M : Model} {A : Around} {α : Type} {t : Sem α} {s : Shared} {E : Value → Shared → Prop} {Q Q' : α → Shared → Prop} (h : wpAny M A t Q (fun _ _ => False) { s with gens := s.gens.map asleep }) (hQ : ∀ a s' b, Q a s' → Rel s'.gens b → SameGens s.gens b → Q' a { s' with gens := b }) : wpAny M A t Q' E s :=
  wpAny_mono (wpAny_keep h) (fun a s2 z => by
    obtain ⟨s', q, _, rl, e, sg⟩ := z
    rw [e]
    exact hQ a s' _ q rl sg) fun e s2 z => by
    obtain ⟨_, no, _⟩ := z
    exact no.elim
section
variable {X : Cx} {k most : Nat}
def tLcH (t : TGen) (g : TG) (tt : TT) (te : TE) (vs : List Nat) : TE := fun σ H Q => ∃ Rd : Nat → List V → Hp → Hp → Prop, t σ H fun rs yl en H1 => Rd 0 [] H1 H1 ∧ (∀ j acc Hy H, Rd j acc Hy H → rs j Hy H) ∧ ∀ D, H1 D = none →
  (∀ j acc Hy H0 x H', Rd j acc Hy H0 → yl j H0 x H' → H0 D = none → H' D = none → g x (wipe σ vs) (upd H' D (.lst acc)) fun σ2 H2 => wipe σ2 vs = wipe σ vs ∧ tt σ2 H2 fun b H3 =>
    if b = true then te σ2 H3 fun y H4 => H4 D = some (.lst acc) ∧ acc.length < sizeLine ∧ Rd (j + 1) (acc ++ [y]) H' (wo H4 D) else H3 D = some (.lst acc) ∧ Rd (j + 1) acc H' (wo H3 D)) ∧
  ∀ j acc Hy H0 H', Rd j acc Hy H0 → en j H0 H' → H0 D = none → H' D = none → Q (.ref D) (upd H' D (.lst acc))
theorem no_cells : ∀ (l : List (Str × NameKind)) (n : Nat) (acc : List (Str × Addr)), (∀ y ∈ l, y.2 ≠ .cell) → cellsFrom n l acc = acc
  | [], _, _, _ => rfl
  | (x, k) :: r, n, acc, h => by
    have hk : k ≠ .cell := h (x, k) List.mem_cons_self
    show (if k == .cell then _ else cellsFrom n r acc) = acc
    rw [if_neg (show ¬ (k == .cell) = true by simpa using hk)]
    exact no_cells r n acc fun y m => h y (List.mem_cons_of_mem _ m)
/-- nothing of the block but its own names and what it captures -/
theorem blk_cells {cells : List (Str × Addr)} {names : List (Str × NameKind)} {n : Nat} (hno : ∀ y ∈ names, y.2 ≠ .cell) (hfree : ∀ y ∈ names, y.2 = .free → ∃ c, cells.lookup y.1 = some c) {x : Str} {c : Addr} (e : (cellsFrom n names (cloFrom cells names [])).lookup x = some c) : cells.lookup x = some c := by
  rw [no_cells names n _ hno] at e
  rcases cloFrom_mem (PySem.mem_of_lookup e) with z | ⟨m, rfl⟩
  · cases z
  · obtain ⟨c', q⟩ := hfree _ m rfl
    have q : cells.lookup x = some c' := q
    rw [q]; rfl
theorem live_dropped {G : GN} {g n j : Nat} {Tk : Nat → Shared → Hp → Prop} {rs : Nat → Hp → Hp → Prop} {yl : Nat → Hp → V → Hp → Prop} {en : Nat → Hp → Hp → Prop} {gs : GenState} {ip : List (Addr × Obj)} {Hy H : Hp} {s : Shared} {D : Addr} (z : Live X G g Tk rs yl en gs ip n j Hy s H) : Live X G g Tk rs yl en gs ip n j Hy s (wo H D) := by
  obtain ⟨z1, z2, z3, z4, sy, own, goes⟩ := z
  refine ⟨z1, z2, z3, z4, sy, fun b hb => ?_, goes⟩
  obtain ⟨o, e1, e2, e3, e4⟩ := own b hb
  exact ⟨o, e1, e2, wo_none e3, e4⟩
theorem lcH_core {pins : List (Addr × Obj)} {s : Shared} {σ : L2.St} {H : Hp} {Q : VK} {elt tg iter : Expr} {ifs : List Expr} {scope : Scope} {own : List (Str × Nat)} {pos pos' : Pos} {t : TGen} {g : TG} {tt : TT} {te : TE} {use : Option (Value → Sem Unit)} {Qf : Value → Shared → Prop}
    (hN : X.N.Nodup) (h1 : 1 ≤ most) (room : Room (k + 1) X.A) (I : Inv X pins σ H s) (hi : PH X iter k most t) (ok : BlkOk X.N X.env.scope scope own) (hno : ∀ y ∈ scope.names, y.2 ≠ .cell)
    (hg : ∀ (s : Shared) (H : Hp) (C : Addr) (cl : List (Str × Addr)) (fp : List Addr), PG (X.blk s H scope (compEnvC scope cl C X.env) fp) tg g)
    (ht : ∀ (s : Shared) (H : Hp) (C : Addr) (cl : List (Str × Addr)) (fp : List Addr), PTs (X.blk s H scope (compEnvC scope cl C X.env) fp) ifs tt)
    (he : ∀ (s : Shared) (H : Hp) (C : Addr) (cl : List (Str × Addr)) (fp : List Addr), PE (X.blk s H scope (compEnvC scope cl C X.env) fp) elt te) (hs : ∀ x, foldedSetIterable iter X.env x = pure x)
    (h : tLcH t g tt te (own.map (·.2)) σ H Q)
    (hRR : ∀ D C s' m H', Inv X pins σ H' s' → Q (.ref D) H' → s'.heap.Ns C m → FpOk X pins H' C → compPost (model X.prog X.w) X.A X.xe use Qf (.ref D) C (.ok .next) s') :
    wpAny (model X.prog X.w) X.A (comprehension (.ListComp elt [⟨tg, iter, ifs, 0⟩] scope pos) scope X.env pos' (newList []) false (eval iter X.env) use) Qf X.xe s := by
  obtain ⟨Rd, h⟩ := h
  have hfree : ∀ y ∈ scope.names, y.2 = .free → ∃ c, X.env.cells.lookup y.1 = some c := fun y hy e => (ok.free y hy e).elim (fun z => I.ok.has _ (.inl z)) fun z => I.ok.has _ (.inr z)
  refine wpAny_comprehension_free (use := use) rfl hs (closure_ok hfree) ok.kind (fun y hy e => by rw [ok.uniq y hy, e]) (thn (hi.run pins s σ H _ I h) fun u s1 z => ?_)
  obtain ⟨rs, yl, en, H1, s0, ⟨r0, hrs, hD⟩, I0, m⟩ := z
  obtain ⟨N, qual, gsc, f, cd, a, g', go, c, rfl, al, hgo, isg, god, hgs, os, bare, ⟨oL, hL, oLd⟩, keep, wake⟩ := m
  refine wpAny_pyIter_gen (isg _ hgo) (wpAny_newObj_type (newEnv_comp ?_) (by show 0 ≤ sizeLine; decide))
  have y0 := By.of I0
  have I1 : Inv X pins σ H1 s1 := I0.call' (ch := []) os (Un.kept keep) (I0.hok.kept keep) bare (fun b z => absurd z List.not_mem_nil)
  have aS : a < s1.heap.objs.size := Heap.lt_size hgo
  generalize eL : s0.heap.objs.size = L at *
  generalize eD : s1.heap.objs.size = D at *
  have nD : H1 D = none := I1.hok.fresh (Nat.le_of_eq eD)
  obtain ⟨turn, fini⟩ := hD D nD
  generalize e3 : ({ s1 with heap := s1.heap.push { cls := .type "list", data := .seq ([] : List Value).toArray } } : Shared) = s3
  have h3 : s3.heap = s1.heap.push { cls := .type "list", data := .seq ([] : List Value).toArray } := by rw [← e3]
  have sz3 : s3.heap.objs.size = D + 1 := by rw [h3, Heap.size_push, eD]
  have at3 : s3.heap.get? D = some { cls := .type "list", data := .seq ([] : List Value).toArray } := by rw [h3, ← eD]; exact Heap.get?_push_size _ rfl
  have kp3 : ∀ b o, s1.heap.get? b = some o → s3.heap.get? b = some o := fun b o e => by rw [h3]; exact Heap.get?_push_of_some _ e
  have lst3 : ∀ H', ObjOk X.prog X.w H' s3.heap D (.lst []) := fun H' => ⟨Nat.zero_le _, [], 0, .nil, at3⟩
  have I3 : Inv X pins σ (upd H1 D (.lst [])) s3 := by
    rw [← e3]
    refine I1.laid (t' := s1.toks) (fun b o e => Heap.get?_push_of_some _ e) (Nat.le_of_eq eD) ?_
    have z := lst3 (upd H1 D (.lst []))
    rw [h3] at z
    exact z
  have f3 : ∀ b ∈ List.range' L (D - L), FpOk X pins (upd H1 D (.lst [])) b ∧ b < s3.heap.objs.size := fun b hb => by
    have z := List.mem_range'_1.mp hb
    have lo : L ≤ b := z.1
    have hi : b < D := by
      have q : L ≤ D := Nat.le_of_lt (Nat.lt_trans al aS)
      have w := z.2
      rw [Nat.add_sub_cancel' q] at w
      exact w
    have nb : upd H1 D (.lst []) b = none := by
      rw [upd_ne (Nat.ne_of_lt hi)]
      exact I0.hok.fresh (by rw [eL]; exact lo)
    exact ⟨I0.fpOk (by rw [eL]; exact lo) nb, by rw [sz3]; exact Nat.lt_succ_of_lt hi⟩
  have I4 := block_start I3 ok hN f3
  have pg := hg s3 (upd H1 D (.lst [])) s3.heap.objs.size (cellsFrom (s3.heap.objs.size + 1) scope.names (cloFrom X.env.cells scope.names [])) (List.range' L (D - L))
  have pt := ht s3 (upd H1 D (.lst [])) s3.heap.objs.size (cellsFrom (s3.heap.objs.size + 1) scope.names (cloFrom X.env.cells scope.names [])) (List.range' L (D - L))
  have pe := he s3 (upd H1 D (.lst [])) s3.heap.objs.size (cellsFrom (s3.heap.objs.size + 1) scope.names (cloFrom X.env.cells scope.names [])) (List.range' L (D - L))
  show codeAny _ _ (.compStart (.ListComp elt [⟨tg, iter, ifs, 0⟩] scope pos) 0 (.ref a) (.ref D) (compEnvC scope (cellsFrom (s3.heap.objs.size + 1) scope.names (cloFrom X.env.cells scope.names [])) s3.heap.objs.size X.env)) (compPost (model X.prog X.w) X.A X.xe use Qf (.ref D) s3.heap.objs.size) { s3 with heap := pushCells (s3.heap.push { cls := .type "dict", data := .dict #[] }) scope.names }
  have cellU : ∀ x c, (compEnvC scope (cellsFrom (s3.heap.objs.size + 1) scope.names (cloFrom X.env.cells scope.names [])) s3.heap.objs.size X.env).cells.lookup x = some c → X.env.cells.lookup x = some c := fun x c e => blk_cells hno hfree e
  generalize ece : compEnvC scope (cellsFrom (s3.heap.objs.size + 1) scope.names (cloFrom X.env.cells scope.names [])) s3.heap.objs.size X.env = ce at I4 pg pt pe cellU ⊢
  have cL : ce.locals = s3.heap.objs.size := by subst ece; rfl
  generalize eC : s3.heap.objs.size = C at *
  have DC : D < C := by rw [sz3]; exact Nat.lt_succ_self _
  have LD : L < D := Nat.lt_trans al aS
  generalize eH3 : upd H1 D (.lst []) = H3 at *
  have H3D : H3 D = some (.lst []) := by rw [← eH3]; exact upd_same
  generalize efp : List.range' L (D - L) = fp at *
  have infp : ∀ b, L ≤ b → b < D → b ∈ fp := fun b l1 l2 => by
    rw [← efp]
    exact List.mem_range'_1.mpr ⟨l1, by rw [Nat.add_sub_cancel' (Nat.le_of_lt LD)]; exact l2⟩
  generalize e4 : ({ s3 with heap := pushCells (s3.heap.push { cls := .type "dict", data := .dict #[] }) scope.names } : Shared) = s4 at I4 ⊢
  have kp4 : ∀ b o, s3.heap.get? b = some o → s4.heap.get? b = some o := fun b o e => by rw [← e4]; exact pushCells_keeps _ _ _ _ (Heap.get?_push_of_some _ e)
  have g4 : s4.gens = s1.gens := by rw [← e4, ← e3]
  have y : By (X.blk s3 H3 scope ce fp) [] L [D, C] := by
    refine ⟨.inr ?_, fun b l1 nb => ?_, y0.stk, fun p hp => absurd (show p ∈ ([] : List (Addr × Obj)) ++ [] from hp) (by simp), fun x c e => y0.cell x c (cellU x c e)⟩
    · show ce.locals ∈ _
      rw [cL]
      simp
    · have n1 : b ≠ D := fun z => nb (by simp [z])
      by_cases l2 : b < D
      · exact .inl (infp b l1 l2)
      · right
        show s3.heap.objs.size ≤ b
        rw [eC, sz3]
        exact Nat.lt_of_le_of_ne (Nat.le_of_not_lt l2) (Ne.symm n1)
  have nOps : L ∉ [D, C] ∧ a ∉ [D, C] := by
    refine ⟨fun z => ?_, fun z => ?_⟩
    · rcases List.mem_cons.mp z with z | z
      · rw [z] at LD; exact Nat.lt_irrefl _ LD
      · rw [List.mem_singleton.mp z] at LD; exact Nat.lt_asymm LD DC
    · rcases List.mem_cons.mp z with z | z
      · rw [z] at aS; exact Nat.lt_irrefl _ aS
      · rw [List.mem_singleton.mp z] at aS; exact Nat.lt_asymm aS DC
  have size : ∀ {s' : Shared} {acc : List V}, (∀ H', ObjOk X.prog X.w H' s'.heap D (.lst acc)) → L ≤ s'.heap.objs.size := fun {s' acc} l => Nat.le_of_lt (Nat.lt_trans LD (l H1).lt)
  have owns : ∀ {σ' : L2.St} {H' : Hp} {s' : Shared} {acc : List V}, Inv (X.blk s3 H3 scope ce fp) [] σ' H' s' → H' D = none → (∀ H', ObjOk X.prog X.w H' s'.heap D (.lst acc)) → Ow [D, C] s' H' := fun {σ' H' s' acc} I' d l b hb => by
    rcases List.mem_cons.mp hb with rfl | hb
    · obtain ⟨_, its, nn, _, e⟩ := l H1
      exact ⟨⟨_, e, fun v q => by cases q⟩, d⟩
    · obtain rfl := List.mem_singleton.mp hb
      obtain ⟨mm, ⟨o, es, ep, ho, hd, _⟩, _⟩ := I'.loc
      have ho : s'.heap.get? ce.locals = some o := ho
      have z : H' ce.locals = none := I'.free
      rw [cL] at ho z
      exact ⟨⟨o, ho, fun v q => by rw [hd] at q; cases q⟩, z⟩
  obtain ⟨okG, wake⟩ := wake X.A.in1 [D, C] (TkX (X.blk s3 H3 scope ce fp) [] L [D, C] fun j Hy σ' H' s' => ∃ acc, Rd j acc Hy H' ∧ (∀ H'', ObjOk X.prog X.w H'' s'.heap D (.lst acc)) ∧ σ' = wipe σ (own.map (·.2)) ∧ H' D = none) room.in1 I0.ok.frames (fun b hb => by
    rcases List.mem_cons.mp hb with rfl | hb
    · exact LD
    · rw [List.mem_singleton.mp hb]; exact Nat.lt_trans LD DC) (fun j s2 H2 z => z.1)
  have lv4 : Live (X.blk s3 H3 scope ce fp) (gOf (X.blk s3 H3 scope ce fp) N qual gsc L f cd a go [D, C] most) g' (TkX (X.blk s3 H3 scope ce fp) [] L [D, C] fun j Hy σ' H' s' => ∃ acc, Rd j acc Hy H' ∧ (∀ H'', ObjOk X.prog X.w H'' s'.heap D (.lst acc)) ∧ σ' = wipe σ (own.map (·.2)) ∧ H' D = none) rs yl en (.fresh c) [] most 0 H1 s4 H1 := by
    refine ⟨by rw [g4]; exact hgs, fun p hp => absurd hp List.not_mem_nil, kp4 _ _ (kp3 _ _ hgo), isg, s1, fun b hb => ?_, fun s' H' tk r e0 kp => ⟨rfl, wake s' H' tk r e0 kp⟩⟩
    rcases hb with rfl | rfl | hb
    · exact ⟨oL, hL, kp4 _ _ (kp3 _ _ hL), I0.hok.fresh (Nat.le_of_eq eL), oLd⟩
    · exact ⟨go, hgo, kp4 _ _ (kp3 _ _ hgo), I0.hok.fresh (Nat.le_of_lt (by rw [eL]; exact al)), god⟩
    · exact absurd hb List.not_mem_nil
  have I4w : Inv (X.blk s3 H3 scope ce fp) [] (wipe σ (own.map (·.2))) H1 s4 := by
    have z := aside I4 H3D
    rw [← eH3, wo_upd nD] at z
    rw [← eH3]
    exact z
  have l4 : ∀ H', ObjOk X.prog X.w H' s4.heap D (.lst []) := fun H' => ⟨Nat.zero_le _, [], 0, .nil, kp4 _ _ at3⟩
  have nocell : ∀ x cc, (X.blk s3 H3 scope ce fp).env.cells.lookup x = some cc → cc ≠ D := fun x cc e z => by
    have w := y.cell x cc e
    rw [z] at w
    exact Nat.lt_asymm w LD
  have noloc : (X.blk s3 H3 scope ce fp).env.locals ≠ D := by
    show ce.locals ≠ D
    rw [cL]
    exact Nat.ne_of_gt DC
  have h0D : (X.blk s3 H3 scope ce fp).H_0 D ≠ none := by
    show H3 D ≠ none
    rw [H3D]
    exact fun z => by cases z
  have loop : codeAny (model X.prog X.w) X.A (.compLoop (.ListComp elt [⟨tg, iter, ifs, 0⟩] scope pos) 0 (.ref a) (.ref D) ce) (compPost (model X.prog X.w) X.A X.xe use Qf (.ref D) C) s4 := by
    refine compLoop_any (fun n s' => ∃ j gs ip Hy H' acc, n + j = most ∧ 1 ≤ n ∧ Inv (X.blk s3 H3 scope ce fp) [] (wipe σ (own.map (·.2))) H' s' ∧ H' D = none ∧ (∀ H'', ObjOk X.prog X.w H'' s'.heap D (.lst acc)) ∧ Rd j acc Hy H' ∧
      Live (X.blk s3 H3 scope ce fp) (gOf (X.blk s3 H3 scope ce fp) N qual gsc L f cd a go [D, C] most) g' (TkX (X.blk s3 H3 scope ce fp) [] L [D, C] fun j Hy σ' H' s' => ∃ acc, Rd j acc Hy H' ∧ (∀ H'', ObjOk X.prog X.w H'' s'.heap D (.lst acc)) ∧ σ' = wipe σ (own.map (·.2)) ∧ H' D = none) rs yl en gs ip n j Hy s' H') ?_ most ⟨0, .fresh c, [], H1, H1, [], Nat.add_zero _, h1, I4w, nD, l4, r0, lv4⟩
    rintro n s5 ⟨j, gs, ip, Hy, H5, acc0, hn, hn1, I5, d5, l5, r5, lv5⟩
    refine thnF (live_turn (X := X.blk s3 H3 scope ce fp) (pins := []) (Rd := fun j Hy σ' H' s' => ∃ acc, Rd j acc Hy H' ∧ (∀ H'', ObjOk X.prog X.w H'' s'.heap D (.lst acc)) ∧ σ' = wipe σ (own.map (·.2)) ∧ H' D = none) y room.hd room.depth okG I5 ⟨acc0, r5, l5, rfl, d5⟩ (hrs _ _ _ _ r5) (fun _ _ _ _ _ _ z => z) hn hn1 ⟨size l5, owns I5 d5 l5⟩ lv5) fun r s6 q => ?_
    rcases q with ⟨rfl, σ0, Hz, H0, H6, sz, ⟨acc, q0, l0, es, d0⟩, e6, I6, op⟩ | ⟨u, rfl, x, σ0, Hz, H0, H6, sz, rv, ⟨acc, q0, l0, es, d0⟩, y6, I6, op, lt6, n6, k', lv', c', p', fs', ip', L6⟩
    · have d6 : H6 D = none ∧ ∀ H'', ObjOk X.prog X.w H'' s6.heap D (.lst acc) := by
        have z := fun H'' => l0 H''
        refine ⟨?_, fun H'' => ?_⟩
        · obtain ⟨_, _, _, _, e⟩ := z H1
          exact (op (D, _) (mem_pinsAt List.mem_cons_self e)).2
        · obtain ⟨z1, its, nn, rr, e⟩ := z H''
          exact ⟨z1, its, nn, rr, (op (D, _) (mem_pinsAt List.mem_cons_self e)).1⟩
      obtain ⟨d6, l6⟩ := d6
      subst es
      have J6 : Inv (X.blk s3 H3 scope ce fp) [] (wipe σ (own.map (·.2))) (upd H6 D (.lst acc)) s6 := taken I6 d6 h0D noloc nocell (fun p hp => absurd (show p ∈ ([] : List (Addr × Obj)) ++ [] from hp) (by simp)) l6
      have J7 : Inv X pins σ (upd H6 D (.lst acc)) s6 := I3.call' (ch := fp) J6.os J6.base J6.hok J6.bare fun b hb => by
        obtain ⟨⟨_, z1, _, z3, z4, z5⟩, _⟩ := f3 b hb
        exact ⟨z3, z1, z4, z5⟩
      have nC : upd H6 D (.lst acc) ce.locals = none := J6.free
      obtain ⟨mm, hns, _⟩ := J6.loc
      have hns : s6.heap.Ns ce.locals mm := hns
      rw [cL] at nC hns
      exact hRR D C s6 mm _ J7 (fini j acc Hz H0 H6 q0 e6 d0 d6) hns (I3.fpOk (Nat.le_of_eq eC) nC)
    · have d6 : H6 D = none ∧ ∀ H'', ObjOk X.prog X.w H'' s6.heap D (.lst acc) := by
        refine ⟨?_, fun H'' => ?_⟩
        · obtain ⟨_, _, _, _, e⟩ := l0 H1
          exact (op (D, _) (mem_pinsAt List.mem_cons_self e)).2
        · obtain ⟨z1, its, nn, rr, e⟩ := l0 H''
          exact ⟨z1, its, nn, rr, (op (D, _) (mem_pinsAt List.mem_cons_self e)).1⟩
      obtain ⟨d6, l6⟩ := d6
      subst es
      obtain ⟨oi, nm, qn, hoi, hcl, hdt, _⟩ := isg _ L6.2.2.1
      refine go_of (n := "generator") hoi hcl hdt rfl ?_
      have Ip := own_pins (L := L) (G := gOf (X.blk s3 H3 scope ce fp) N qual gsc L f cd a go [D, C] most) y al nOps I6 L6
      have hip' := L6.2.1
      have Jp : Inv (X.blk s3 H3 scope ce fp) ([] ++ pinsAt (L :: a :: ip'.map (·.1)) s6.heap) (wipe σ (own.map (·.2))) (upd H6 D (.lst acc)) s6 := taken Ip d6 h0D noloc nocell (fun p hp z => by
        rcases List.mem_append.mp (show p ∈ ([] : List (Addr × Obj)) ++ ([] ++ pinsAt (L :: a :: ip'.map (·.1)) s6.heap) from hp) with w | w
        · exact absurd w List.not_mem_nil
        · obtain ⟨hb, _⟩ := of_pinsAt w
          rw [z] at hb
          rcases List.mem_cons.mp hb with w | hb
          · exact nOps.1 (by rw [← w]; exact List.mem_cons_self)
          · rcases List.mem_cons.mp hb with w | hb
            · exact nOps.2 (by rw [← w]; exact List.mem_cons_self)
            · obtain ⟨q, hq, w⟩ := List.mem_map.mp hb
              exact (hip' q hq).2 (by rw [w]; exact List.mem_cons_self)) l6
      refine keepS (pg.run _ { s6 with gens := s6.gens.map asleep } _ (upd H6 D (.lst acc)) x u _ (inv_gens Jp (asleep_all Jp.bare)) rv (turn j acc Hz H0 x H6 q0 y6 d0 d6)) fun _ s8 b8 z8 rl8 sg8 => ?_
      obtain ⟨σ8, H8, I8, hw8, q8⟩ := z8
      have K8 := inv_gens I8 (rl8.bare I8.bare)
      refine keepS (pt.run _ { ({ s8 with gens := b8 } : Shared) with gens := b8.map asleep } σ8 H8 _ (inv_gens K8 (asleep_all K8.bare)) q8) fun b s9 b9 z9 rl9 sg9 => ?_
      obtain ⟨H9, I9, q9⟩ := z9
      have K9 := inv_gens I9 (rl9.bare I9.bare)
      -- the turn's end
      have fin : ∀ {s' : Shared} {H' : Hp} {acc' : List V}, Inv (X.blk s3 H3 scope ce fp) ([] ++ pinsAt (L :: a :: ip'.map (·.1)) s6.heap) σ8 H' s' → H' D = some (.lst acc') → SameGens s6.gens s'.gens → Rd (j + 1) acc' H6 (wo H' D) → ∃ m, m < n ∧ ∃ j gs ip Hy H' acc, m + j = most ∧ 1 ≤ m ∧ Inv (X.blk s3 H3 scope ce fp) [] (wipe σ (own.map (·.2))) H' s' ∧ H' D = none ∧ (∀ H'', ObjOk X.prog X.w H'' s'.heap D (.lst acc)) ∧ Rd j acc Hy H' ∧
          Live (X.blk s3 H3 scope ce fp) (gOf (X.blk s3 H3 scope ce fp) N qual gsc L f cd a go [D, C] most) g' (TkX (X.blk s3 H3 scope ce fp) [] L [D, C] fun j Hy σ' H' s' => ∃ acc, Rd j acc Hy H' ∧ (∀ H'', ObjOk X.prog X.w H'' s'.heap D (.lst acc)) ∧ σ' = wipe σ (own.map (·.2)) ∧ H' D = none) rs yl en gs ip m j Hy s' H' := fun {s' H' acc'} I' hD' sg' rd' => by
        obtain ⟨L7, _⟩ := live_on sg' I' L6
        have hl : (wipe σ (own.map (·.2))).length = σ8.length := by rw [← hw8, wipe_length]
        refine ⟨n - 1, by omega, j + 1, _, ip', H6, wo H' D, acc', by omega, n6, (aside (I'.unpinned (pins := [])) hD').weak hl (fun i v e => ?_), wo_same, fun H'' => ?_, rd', live_dropped L7⟩
        · rw [← hw8] at e
          exact (wipe_some e).1
        · obtain ⟨z1, its, nn, rr, e⟩ := I'.hok D _ hD'
          exact ⟨z1, its, nn, rr, e⟩
      cases b with
      | false =>
        rw [if_neg Bool.false_ne_true] at q9 ⊢
        exact fin K9 q9.1 ((sg8.trans sg9)) q9.2
      | true =>
        rw [if_pos rfl] at q9 ⊢
        refine keepS (pe.run _ { ({ s9 with gens := b9 } : Shared) with gens := b9.map asleep } σ8 H9 _ (inv_gens K9 (asleep_all K9.bare)) q9) fun v s10 b10 z10 rl10 sg10 => ?_
        obtain ⟨yv, H10, I10, r10, hD10, hz10, nx⟩ := z10
        have K10 := inv_gens I10 (rl10.bare I10.bare)
        refine keepS (app_ok (X := X.blk s3 H3 scope ce fp) (Q := fun _ s' => Inv (X.blk s3 H3 scope ce fp) ([] ++ pinsAt (L :: a :: ip'.map (·.1)) s6.heap) σ8 (upd H10 D (.lst (acc ++ [yv]))) s') (s := { ({ s10 with gens := b10 } : Shared) with gens := b10.map asleep }) (inv_gens K10 (asleep_all K10.bare)) hD10 hz10 r10 fun s11 I11 => I11) fun _ s11 b11 I11 rl11 sg11 => ?_
        have K11 := inv_gens I11 (rl11.bare I11.bare)
        exact fin K11 upd_same (((sg8.trans sg9).trans sg10).trans sg11) (by rw [wo_lst]; exact nx)
  exact codeAny_compStart_list loop (wpAny_pyIter_gen (isg _ (kp4 _ _ (kp3 _ _ hgo))) loop)
/-- such a comprehension as a value -/
theorem pe_lcH {elt tg iter : Expr} {ifs : List Expr} {scope : Scope} {own : List (Str × Nat)} {pos : Pos} {t : TGen} {g : TG} {tt : TT} {te : TE} (hN : X.N.Nodup) (h1 : 1 ≤ most) (room : Room (k + 1) X.A) (hi : PH X iter k most t) (ok : BlkOk X.N X.env.scope scope own) (hno : ∀ y ∈ scope.names, y.2 ≠ .cell)
    (hg : ∀ (s : Shared) (H : Hp) (C : Addr) (cl : List (Str × Addr)) (fp : List Addr), PG (X.blk s H scope (compEnvC scope cl C X.env) fp) tg g)
    (ht : ∀ (s : Shared) (H : Hp) (C : Addr) (cl : List (Str × Addr)) (fp : List Addr), PTs (X.blk s H scope (compEnvC scope cl C X.env) fp) ifs tt)
    (he : ∀ (s : Shared) (H : Hp) (C : Addr) (cl : List (Str × Addr)) (fp : List Addr), PE (X.blk s H scope (compEnvC scope cl C X.env) fp) elt te) (hs : ∀ x, foldedSetIterable iter X.env x = pure x := by intro _; rfl) :
    PE X (.ListComp elt [⟨tg, iter, ifs, 0⟩] scope pos) (tLcH t g tt te (own.map (·.2))) := by
  refine ⟨fun pins s σ H Q I h => ?_⟩
  rw [eval_ListComp]
  refine lcH_core hN h1 room I hi ok hno hg ht he hs h fun D C s' m H' I' q hn f => ⟨m, hn, fun h'' sb => ?_⟩
  exact ⟨.ref D, H', I'.turned (t' := s'.toks) (fun b o hb e => (sb.2 b hb).trans e) f.1 f.2.1 f.2.2.2.1 f.2.2.2.2.1 f.2.2.2.2.2, rfl, q⟩
/-- y = [..] on one line, y a local -/
theorem ps_setLcH {i : Nat} {y : Str} {py : Pos} {elt tg iter : Expr} {ifs : List Expr} {scope : Scope} {own : List (Str × Nat)} {pos spos : Pos} {t : TGen} {g : TG} {tt : TT} {te : TE} (hN : X.N.Nodup) (h1 : 1 ≤ most) (room : Room (k + 1) X.A) (hy : X.N[i]? = some y) (hyl : X.env.scope.names.lookup y = some .local)
    (hsw : swapsWith (.ListComp elt [⟨tg, iter, ifs, 0⟩] scope pos) (some (.Name y py)) spos.line X.env = pure true) (hi : PH X iter k most t) (ok : BlkOk X.N X.env.scope scope own) (hno : ∀ y ∈ scope.names, y.2 ≠ .cell)
    (hg : ∀ (s : Shared) (H : Hp) (C : Addr) (cl : List (Str × Addr)) (fp : List Addr), PG (X.blk s H scope (compEnvC scope cl C X.env) fp) tg g)
    (ht : ∀ (s : Shared) (H : Hp) (C : Addr) (cl : List (Str × Addr)) (fp : List Addr), PTs (X.blk s H scope (compEnvC scope cl C X.env) fp) ifs tt)
    (he : ∀ (s : Shared) (H : Hp) (C : Addr) (cl : List (Str × Addr)) (fp : List Addr), PE (X.blk s H scope (compEnvC scope cl C X.env) fp) elt te) (hs : ∀ x, foldedSetIterable iter X.env x = pure x := by intro _; rfl) :
    PS X (.Assign [.Name y py] (.ListComp elt [⟨tg, iter, ifs, 0⟩] scope pos) spos) (tAsg (tLcH t g tt te (own.map (·.2))) (gName i)) := by
  refine ⟨fun pins s σ H D I h => ?_⟩
  rw [exec_Assign_Name_used _ _ _ _ hsw]
  refine wpAny_bind (wpAny_standAt (wpAny_bind ?_))
  show wpAny _ X.A (do let _ ← comprehension (.ListComp elt [⟨tg, iter, ifs, 0⟩] scope pos) scope X.env (firstIterPos [⟨tg, iter, ifs, 0⟩] pos) (newList []) false (eval iter X.env) (some (assign (.Name y py) X.env))) _ _ s
  have hh : tLcH t g tt te (own.map (·.2)) σ H (fun x H1 => gName i x σ H1 D.nx) := h
  refine wpAny_bind (thn (lcH_core (Qf := fun _ s' => SP X pins D .next s') hN h1 room I hi ok hno hg ht he hs hh fun L C s' m H' I' q hn f => ?_) fun _ s' hq => wpAny_pure (wpAny_pure hq))
  show wpAny _ _ (assign (.Name y py) X.env (.ref L)) _ _ _
  refine wpAny_assign_Name (store_ok2 (v := V.ref L) I' hN hy (.inl hyl) rfl (fun s2 I2 w => ?_) (.inr hyl))
  obtain ⟨a, sb, ha⟩ := w
  have other : C ≠ a := by
    rcases ha with z | z
    · rw [z]; exact f.2.1
    · exact fun e => f.2.2.2.2.1 y a z e.symm
  exact ⟨m, hn.sameBut sb other, fun h3 sb3 => ⟨_, H', I2.turned (t' := s2.toks) (fun b o hb e => (sb3.2 b hb).trans e) f.1 f.2.1 f.2.2.2.1 f.2.2.2.2.1 f.2.2.2.2.2, q⟩⟩
end
end KH

/-! KH5: readings of generator bodies, and of loops over them. -/
namespace KH
open PySem PySem.Spec PyProof.Rows L2 GenW KT
/-! ### a reading that does not look at the state of waking -/
theorem goPI {X : Cx} {tg iter : Expr} {r r' : TI} (h : PI X tg iter r) (e : r = r') : PI X tg iter r' := e ▸ h
theorem goPG {X : Cx} {tg : Expr} {r r' : TG} (h : PG X tg r) (e : r = r') : PG X tg r' := e ▸ h
theorem goPS {X : Cx} {st : Stmt} {r r' : TS} (h : PS X st r) (e : r = r') : PS X st r' := e ▸ h
theorem goPE {X : Cx} {ex : Expr} {r r' : TE} (h : PE X ex r) (e : r = r') : PE X ex r' := e ▸ h
theorem goPT {X : Cx} {ex : Expr} {r r' : TT} (h : PT X ex r) (e : r = r') : PT X ex r' := e ▸ h
section
variable {σ : L2.St} {H H0 : Hp} {D : GD} {j : Nat}
theorem r_hthen {t u : TW} (q : t { D with nx := fun j' H0' σ' H' => u D j' H0' σ' H' } j H0 σ H) : tWThen t u D j H0 σ H := q
theorem r_h0 (q : D.nx j H0 σ H) : tW0 D j H0 σ H := q
theorem r_hps {t : TS} (q : t (D.at j H0) σ H) : tWPlain t D j H0 σ H := q
theorem r_hif {tc : TT} {t1 t2 : TW} (q : tc σ H fun b H1 => if b = true then t1 D j H0 σ H1 else t2 D j H0 σ H1) : tWIf tc t1 t2 D j H0 σ H := q
theorem r_hyield {m : Nat} {te : TE} (h : j + 1 < m) (q : te σ H fun x H1 => D.yl j H0 x H1 ∧ ∀ H2, D.rs (j + 1) H1 H2 → D.nx (j + 1) H2 σ H2) : tWYield m te D j H0 σ H := ⟨h, q⟩
theorem r_hfor {wi : TI} {g : TG} {tb : TW} (q : wi σ H fun J H1 => ∃ W : Nat → Nat → Nat → Hp → L2.St → Hp → Prop, (∃ m, W 0 m j H0 σ H1) ∧ ∀ i m j H0 σ H, W i m j H0 σ H →
  (J.stop i H ∧ D.nx j H0 σ H) ∨ (J.go i H ∧ ∃ N : Nat → Hp → L2.St → Hp → Prop, (∀ j' H0' σ' H', N j' H0' σ' H' → ∃ m', m' < m ∧ W (i + 1) m' j' H0' σ' H') ∧ ∀ x H', J.yld i H x H' → g x σ H' fun σ2 H2 => tb { D with nx := N, ct := N, bk := D.nx } j H0 σ2 H2)) : tWFor wi g tb D j H0 σ H := q
end
/-- a loop of a generator, by the walk -/
theorem hforW {J : It} {n : Nat} {G : Hp → Prop} {Y : Nat → Hp → V → Hp → Prop} (wk : Walk J n G Y) {g : TG} {tb : TW} {D : GD} {j : Nat} {H0 : Hp} {σ : L2.St} {H : Hp} (Pv : Nat → Nat → Hp → L2.St → Hp → Prop) (h0 : Pv 0 j H0 σ H) (hG : ∀ i j H0 σ H, i ≤ n → Pv i j H0 σ H → G H)
    (hs : ∀ i x j H0 σ H H', i < n → Pv i j H0 σ H → Y i H x H' → g x σ H' fun σ2 H2 => tb { D with nx := Pv (i + 1), ct := Pv (i + 1), bk := D.nx } j H0 σ2 H2) (hd : ∀ j H0 σ H, Pv n j H0 σ H → D.nx j H0 σ H) :
    ∃ W : Nat → Nat → Nat → Hp → L2.St → Hp → Prop, (∃ m, W 0 m j H0 σ H) ∧ ∀ i m j H0 σ H, W i m j H0 σ H →
      (J.stop i H ∧ D.nx j H0 σ H) ∨ (J.go i H ∧ ∃ N : Nat → Hp → L2.St → Hp → Prop, (∀ j' H0' σ' H', N j' H0' σ' H' → ∃ m', m' < m ∧ W (i + 1) m' j' H0' σ' H') ∧ ∀ x H', J.yld i H x H' → g x σ H' fun σ2 H2 => tb { D with nx := N, ct := N, bk := D.nx } j H0 σ2 H2) := by
  refine ⟨fun i m j H0 σ H => m = n - i ∧ i ≤ n ∧ Pv i j H0 σ H, ⟨n, by simp, Nat.zero_le _, h0⟩, ?_⟩
  rintro i m j H0 σ H ⟨rfl, hi, p⟩
  have q := hG i j H0 σ H hi p
  rcases Nat.lt_or_ge i n with lt | ge
  · exact .inr ⟨wk.goes i H lt q, Pv (i + 1), fun j' H0' σ' H' p' => ⟨n - (i + 1), by omega, rfl, lt, p'⟩, fun x H' y => hs i x j H0 σ H H' lt p (wk.yields i H x H' lt q y)⟩
  · have e : i = n := Nat.le_antisymm hi ge
    rw [e] at p ⊢
    exact .inl ⟨wk.stops H q, hd j H0 σ H p⟩
end KH

/-! ### own steps of the reading -/
local macro_rules | `(tactic| walk_at "hp") => `(tactic| first | with_reducible assumption | with_reducible exact L2.upd_same | (refine KB.upd_new ?h1 ?h2; (case h1 => (with_reducible assumption)); (case h2 => walk_at "hp")) | (rw [L2.upd_ne (by first | assumption | exact Ne.symm (by assumption))]; walk_at "hp"))
local macro_rules | `(tactic| walk_at "sq") => `(tactic| first | with_reducible assumption | (refine L2.SqL.of ?h1; (case h1 => walk_at "hp")) | (refine L2.SqT.of ?h1; (case h1 => walk_at "hp")))
local macro_rules | `(tactic| walk_at "sq2") => `(tactic| first | (refine Or.inl ?_; walk_at "sq") | (refine Or.inr ?_; walk_at "sq") | (with_reducible exact Or.inr (by (first | with_reducible assumption | apply_assumption))))
local macro_rules | `(tactic| walk_at "sz") => `(tactic| exact KB.sz_lit (by simp))
local macro_rules | `(tactic| walk_at "cond") => `(tactic| first | (show _ ∨ _; first | exact Or.inl ⟨by omega, by omega⟩ | exact Or.inr ⟨by omega, by omega⟩) | (show _ ∧ _ ∧ _; exact ⟨by omega, by omega, by omega⟩) | (show _ ∧ _; exact ⟨by omega, by omega⟩) | (show _ < _; omega) | (show _ ≤ _; omega))
local macro_rules | `(tactic| walk_at "rd1") => `(tactic| first
  | with_reducible refine KB.r_seq ?_
  | with_reducible refine KB.r_next ?_
  | with_reducible refine KB.r_c ?_
  | ((with_reducible refine KB.r_var (v := ?v1) ?h1 ?q); (case h1 => exact rfl))
  | with_reducible refine KB.r_op ?_
  | with_reducible refine KB.r_un ?_
  | with_reducible refine KB.r_I0 ?_
  | ((with_reducible refine KB.r_I ?h1 ?q); (case h1 => walk_at "cond"))
  | with_reducible refine KB.r_int1 ?_
  | with_reducible refine KB.r_bl1 ?_
  | with_reducible refine KB.r_ex1 ?_
  | with_reducible refine KB.r_ex2 ?_
  | ((with_reducible refine KB.r_lenS (xs := ?v1) ?h1 ?q); (case h1 => walk_at "sq"))
  | ((with_reducible refine KB.r_eq ?h1 ?q); (case h1 => exact rfl))
  | ((with_reducible refine KB.r_ne ?h1 ?q); (case h1 => exact rfl))
  | with_reducible refine KB.r_U ?_
  | with_reducible refine KB.r_test ?_
  | with_reducible refine KB.r_B ?_
  | with_reducible refine KB.r_bl ?_
  | with_reducible refine KB.r_int ?_
  | with_reducible refine KB.r_and ?_
  | with_reducible refine KB.r_or ?_
  | with_reducible refine KB.r_not ?_
  | with_reducible refine KB.r_andV ?_
  | with_reducible refine KB.r_orV ?_
  | with_reducible refine KB.r_notV ?_
  | with_reducible refine KB.r_if ?_
  | with_reducible refine KB.r_nil ?_
  | with_reducible refine KB.r_cons ?_
  | with_reducible refine KB.r_tup ?_
  | with_reducible refine KB.r_lst ?_
  | with_reducible refine KB.r_call ?_
  | with_reducible refine KB.r_cb ?_
  | ((with_reducible refine KB.r_ixL (xs := ?v1) (v := ?v2) ?h1 ?h2 ?q); (case h1 => walk_at "sq"); (case h2 => exact rfl))
  | ((with_reducible refine KB.r_ixT (xs := ?v1) (v := ?v2) ?h1 ?h2 ?q); (case h1 => walk_at "sq"); (case h2 => exact rfl))
  | ((with_reducible refine KB.r_setL (xs := ?v1) (j := ?v2) ?h1 ?h2 ?q); (case h1 => walk_at "hp"); (case h2 => exact rfl))
  | with_reducible refine KB.r_meth ?_
  | with_reducible refine KB.r_fld ?_
  | with_reducible refine KB.r_sfld ?_
  | with_reducible refine KB.r_gname ?_
  | with_reducible refine KB.r_for ?_
  | with_reducible refine KO.r_methK0 ?_
  | with_reducible refine KO.r_makeK ?_
  | with_reducible refine KO.r_joined ?_
  | with_reducible refine KO.r_joined0 ?_
  | with_reducible refine KO.r_fmt ?_
  | with_reducible refine KB.r_isNone ?_
  | ((with_reducible refine KB.r_gtup (xs := ?v1) ?h1 ?h2 ?q); (case h1 => walk_at "sq"); (case h2 => exact rfl))
  | with_reducible refine KB.r_gcons ?_
  | with_reducible refine KB.r_gnil ?_
  | with_reducible refine KB.r_irng2 ?_
  | with_reducible refine KB.r_bm ?_
  | ((with_reducible refine KB.r_tyL (xs := ?v1) ?h1 ?q); (case h1 => walk_at "sq"))
  | ((with_reducible refine KB.r_fldK (C := ?v1) (dx := ?v2) (fs := ?v3) (v := ?v4) ?h1 ?h2 ?h3 ?h4 ?q); (case h1 => walk_at "hp"); (case h2 => assumption); (case h3 => assumption); (case h4 => exact rfl))
  | with_reducible refine KB.r_callD ?_
  | with_reducible refine KB.r_callN ?_
  | with_reducible refine KB.r_dget1 ?_
  | with_reducible refine KB.r_dget ?_
  | with_reducible refine KB.r_dput ?_
  | with_reducible refine KB.r_disp ?_
  | with_reducible refine KB.r_pairs ?_
  | with_reducible refine KB.r_pairs0 ?_
  | with_reducible refine KB.r_make ?_
  | with_reducible refine KB.r_m1 ?_
  | with_reducible refine KB.r_m0 ?_
  | with_reducible refine KB.r_isStr ?_
  | with_reducible refine KB.r_exStr ?_
  | with_reducible refine KB.r_lc ?_
  | with_reducible refine KB.r_irng1 ?_
  | with_reducible refine KB.r_itup ?_
  | with_reducible refine KB.r_ilist ?_
  | with_reducible refine KB.r_istr ?_
  | ((with_reducible refine KB.r_cval (v := ?v1) (mc := ?v2) (uu := ?v3) ?h1 ?h2 ?q); (case h1 => assumption); (case h2 => assumption))
  | ((with_reducible refine KB.r_notInS (zs := ?v1) ?h1 ?q); (case h1 => walk_at "sq2"))
  | ((with_reducible refine KB.r_inS (zs := ?v1) ?h1 ?q); (case h1 => walk_at "sq2"))
  | with_reducible refine KB.r_asg ?_
  | with_reducible refine KB.r_asgS ?_
  | with_reducible refine KB.r_asgG ?_
  | with_reducible refine KB.r_ifS ?_
  | with_reducible refine KB.r_ret ?_
  | with_reducible refine KB.r_drop ?_
  | with_reducible refine KB.r_par ?_
  | with_reducible refine KB.r_match ?_
  | with_reducible refine KB.r_mstr ?_
  | with_reducible refine KB.r_mnil ?_
  | with_reducible refine KB.r_sl ?_
  | with_reducible refine KB.r_nopart ?_
  | with_reducible refine KB.r_part ?_
  | ((with_reducible refine KB.r_slL (xs := ?v1) ?h1 ?q); (case h1 => walk_at "sq"))
  | with_reducible refine L2.iteF ?_
  | with_reducible refine KB.iteNt ?_
  | with_reducible refine KB.iteNf ?_
  | with_reducible refine L2.iteT ?_
  | dsimp only)
local macro_rules | `(tactic| walk_at "rd") => `(tactic| repeat walk_at "rd1")
local macro_rules | `(tactic| walk_at "sp1") => `(tactic| first | with_reducible refine KB.r_iteS2 (fun _ => ?_) (fun _ => ?_) | with_reducible refine KB.r_iteI2 (fun _ => ?_) (fun _ => ?_) | with_reducible refine KB.r_ite2 (fun _ => ?_) (fun _ => ?_) | with_reducible refine KB.r_iteN2 (fun _ => ?_) (fun _ => ?_) | with_reducible refine KB.r_iteB (fun _ => ?_) (fun _ => ?_) | with_reducible refine KB.r_iteBN (fun _ => ?_) (fun _ => ?_))
local macro_rules | `(tactic| walk_at "sp") => `(tactic| repeat' (first | walk_at "rd1" | walk_at "sp1"))
local macro_rules | `(tactic| walk_at "ifs") => `(tactic| repeat (first | rw [if_pos (by assumption)] | rw [if_neg (by assumption)]))

namespace K04
open PySem L2 KB
def top (i : Nat) : Stmt := PySem.Challenge.pw_keptbits_k04_whole_blends_one_after_anot.main.body.getD i (.Pass ⟨0, 0, 0, 0⟩)
abbrev s_is_integer : Stmt := top 10
theorem sc_is_integer : FnScope ["value"] ["value"] (defScope s_is_integer) := ⟨rfl, rfl, rfl, by decide +kernel, rfl, by decide +kernel, by decide +kernel⟩
abbrev s_need_width : Stmt := top 11
theorem sc_need_width : FnScope ["width"] ["width"] (defScope s_need_width) := ⟨rfl, rfl, rfl, by decide +kernel, rfl, by decide +kernel, by decide +kernel⟩
abbrev s_ones : Stmt := top 12
theorem sc_ones : FnScope ["width"] ["width"] (defScope s_ones) := ⟨rfl, rfl, rfl, by decide +kernel, rfl, by decide +kernel, by decide +kernel⟩
abbrev s_is_word : Stmt := top 13
theorem sc_is_word : FnScope ["width", "value"] ["width", "value"] (defScope s_is_word) := ⟨rfl, rfl, rfl, by decide +kernel, rfl, by decide +kernel, by decide +kernel⟩
abbrev s_need_word : Stmt := top 14
theorem sc_need_word : FnScope ["width", "value"] ["width", "value"] (defScope s_need_word) := ⟨rfl, rfl, rfl, by decide +kernel, rfl, by decide +kernel, by decide +kernel⟩
abbrev s_shifted : Stmt := top 15
theorem sc_shifted : FnScope ["value", "width", "shift"] ["value", "width", "shift"] (defScope s_shifted) := ⟨rfl, rfl, rfl, by decide +kernel, rfl, by decide +kernel, by decide +kernel⟩
abbrev s_need_step : Stmt := top 17
theorem sc_need_step : FnScope ["width", "step"] ["width", "step"] (defScope s_need_step) := ⟨rfl, rfl, rfl, by decide +kernel, rfl, by decide +kernel, by decide +kernel⟩
abbrev s_Blend___init__ : Stmt := inClass (top 18) 0
theorem sc_Blend___init__ : FnScope ["self", "width", "shift", "keep", "flip", "kept"] ["self", "width", "shift", "keep", "flip"] (defScope s_Blend___init__) := ⟨rfl, rfl, rfl, by decide +kernel, rfl, by decide +kernel, by decide +kernel⟩
abbrev s_Blend_constant : Stmt := inClass (top 18) 1
theorem sc_Blend_constant : FnScope ["cls", "width", "value"] ["cls", "width", "value"] (defScope s_Blend_constant) := ⟨rfl, rfl, rfl, by decide +kernel, rfl, by decide +kernel, by decide +kernel⟩
abbrev s_Blend_is_constant : Stmt := inClass (top 18) 2
theorem sc_Blend_is_constant : FnScope ["self"] ["self"] (defScope s_Blend_is_constant) := ⟨rfl, rfl, rfl, by decide +kernel, rfl, by decide +kernel, by decide +kernel⟩
abbrev s_Blend___call__ : Stmt := inClass (top 18) 3
theorem sc_Blend___call__ : FnScope ["self", "value"] ["self", "value"] (defScope s_Blend___call__) := ⟨rfl, rfl, rfl, by decide +kernel, rfl, by decide +kernel, by decide +kernel⟩
abbrev s_Blend___and__ : Stmt := inClass (top 18) 4
theorem sc_Blend___and__ : FnScope ["self", "other"] ["self", "other"] (defScope s_Blend___and__) := ⟨rfl, rfl, rfl, by decide +kernel, rfl, by decide +kernel, by decide +kernel⟩
abbrev s_Blend___rand__ : Stmt := inClass (top 18) 5
theorem sc_Blend___rand__ : FnScope ["self", "other"] ["self", "other"] (defScope s_Blend___rand__) := ⟨rfl, rfl, rfl, by decide +kernel, rfl, by decide +kernel, by decide +kernel⟩
abbrev s_Blend___or__ : Stmt := inClass (top 18) 6
theorem sc_Blend___or__ : FnScope ["self", "other"] ["self", "other"] (defScope s_Blend___or__) := ⟨rfl, rfl, rfl, by decide +kernel, rfl, by decide +kernel, by decide +kernel⟩
abbrev s_Blend___ror__ : Stmt := inClass (top 18) 7
theorem sc_Blend___ror__ : FnScope ["self", "other"] ["self", "other"] (defScope s_Blend___ror__) := ⟨rfl, rfl, rfl, by decide +kernel, rfl, by decide +kernel, by decide +kernel⟩
abbrev s_Blend___xor__ : Stmt := inClass (top 18) 8
theorem sc_Blend___xor__ : FnScope ["self", "other"] ["self", "other"] (defScope s_Blend___xor__) := ⟨rfl, rfl, rfl, by decide +kernel, rfl, by decide +kernel, by decide +kernel⟩
abbrev s_Blend___rxor__ : Stmt := inClass (top 18) 9
theorem sc_Blend___rxor__ : FnScope ["self", "other"] ["self", "other"] (defScope s_Blend___rxor__) := ⟨rfl, rfl, rfl, by decide +kernel, rfl, by decide +kernel, by decide +kernel⟩
abbrev s_Blend___invert__ : Stmt := inClass (top 18) 10
theorem sc_Blend___invert__ : FnScope ["self"] ["self"] (defScope s_Blend___invert__) := ⟨rfl, rfl, rfl, by decide +kernel, rfl, by decide +kernel, by decide +kernel⟩
abbrev s_Blend___lshift__ : Stmt := inClass (top 18) 11
theorem sc_Blend___lshift__ : FnScope ["self", "other"] ["self", "other"] (defScope s_Blend___lshift__) := ⟨rfl, rfl, rfl, by decide +kernel, rfl, by decide +kernel, by decide +kernel⟩
abbrev s_Blend___rshift__ : Stmt := inClass (top 18) 12
theorem sc_Blend___rshift__ : FnScope ["self", "other"] ["self", "other"] (defScope s_Blend___rshift__) := ⟨rfl, rfl, rfl, by decide +kernel, rfl, by decide +kernel, by decide +kernel⟩
abbrev s_Blend___eq__ : Stmt := inClass (top 18) 13
theorem sc_Blend___eq__ : FnScope ["self", "other"] ["self", "other"] (defScope s_Blend___eq__) := ⟨rfl, rfl, rfl, by decide +kernel, rfl, by decide +kernel, by decide +kernel⟩
abbrev s_Blend___repr__ : Stmt := inClass (top 18) 14
theorem sc_Blend___repr__ : FnScope ["self"] ["self"] (defScope s_Blend___repr__) := ⟨rfl, rfl, rfl, by decide +kernel, rfl, by decide +kernel, by decide +kernel⟩
abbrev s_Blend_then : Stmt := inClass (top 18) 15
theorem sc_Blend_then : FnScope ["self", "c", "keep", "flip"] ["self", "c"] (defScope s_Blend_then) := ⟨rfl, rfl, rfl, by decide +kernel, rfl, by decide +kernel, by decide +kernel⟩
abbrev s_Blend_sources : Stmt := inClass (top 18) 16
theorem sc_Blend_sources : GScope ["self", "place"] ["self"] (defScope s_Blend_sources) := ⟨rfl, rfl, rfl, by decide +kernel, rfl, by decide +kernel, by decide +kernel⟩
abbrev s_moved : Stmt := top 19
theorem sc_moved : FnScope ["blend", "step", "keep", "flip"] ["blend", "step"] (defScope s_moved) := ⟨rfl, rfl, rfl, by decide +kernel, rfl, by decide +kernel, by decide +kernel⟩
abbrev s_blend_parting : Stmt := top 20
theorem sc_blend_parting : FnScope ["b", "c", "source", "word"] ["b", "c"] (defScope s_blend_parting) := ⟨rfl, rfl, rfl, by decide +kernel, rfl, by decide +kernel, by decide +kernel⟩
abbrev s__law_pen : Stmt := top 22
theorem sc__law_pen : FnScope ["_law_script"] ["_law_script"] (defScope s__law_pen) := ⟨rfl, rfl, rfl, by decide +kernel, rfl, by decide +kernel, by decide +kernel⟩
abbrev s__law_draw : Stmt := top 23
theorem sc__law_draw : FnScope ["_law_pen_here", "_law_many", "_law_digit", "_law_at", "_law_cell", "_law_great", "_law_mixed"] ["_law_pen_here", "_law_many"] (defScope s__law_draw) := ⟨rfl, rfl, rfl, by decide +kernel, rfl, by decide +kernel, by decide +kernel⟩
abbrev s__law_word : Stmt := top 24
theorem sc__law_word : FnScope ["_law_pen_here", "_law_wide", "_law_top", "_law_any_word", "_law_turn", "_law_other"] ["_law_pen_here", "_law_wide"] (defScope s__law_word) := ⟨rfl, rfl, rfl, by decide +kernel, rfl, by decide +kernel, by decide +kernel⟩
abbrev s__law_heard : Stmt := top 25
theorem sc__law_heard : FnScope ["_law_ask", "_law_caught", "error", "_law_marks"] ["_law_ask"] (defScope s__law_heard) := ⟨rfl, rfl, rfl, by decide +kernel, rfl, by decide +kernel, by decide +kernel⟩
abbrev s__law_blend : Stmt := top 26
theorem sc__law_blend : FnScope ["_law_pen_here", "_law_wide", "_law_shift", "_law_keep"] ["_law_pen_here", "_law_wide"] (defScope s__law_blend) := ⟨rfl, rfl, rfl, by decide +kernel, rfl, by decide +kernel, by decide +kernel⟩
abbrev s__law_joined : Stmt := top 27
theorem sc__law_joined : FnScope ["_law_first", "_law_second", "_law_inner", "_law_place", "_law_source"] ["_law_first", "_law_second"] (defScope s__law_joined) := ⟨rfl, rfl, rfl, by decide +kernel, rfl, by decide +kernel, by decide +kernel⟩
abbrev s__law_behind_right : Stmt := top 28
theorem sc__law_behind_right : FnScope ["_law_pen_here", "_law_blend_here", "_law_wide", "_law_word_here", "_law_step", "_law_plain", "_law_pairs", "_law_told", "_law_behind"] ["_law_pen_here", "_law_blend_here"] (defScope s__law_behind_right) := ⟨rfl, rfl, rfl, by decide +kernel, rfl, by decide +kernel, by decide +kernel⟩
abbrev s_law : Stmt := top 29
theorem sc_law : FnScope ["_law_script", "_law_pen_here", "_law_wide", "_law_some", "_law_turn", "_law_kept", "_law_one", "_law_two", "_law_three", "_law_both", "_law_every", "_law_thing", "_law_plain", "_law_word_here", "_law_constant", "_law_other"] ["_law_script"] (defScope s_law) := ⟨rfl, rfl, rfl, by decide +kernel, rfl, by decide +kernel, by decide +kernel⟩

structure Txt (mg : Str → Option Value) : Prop where
  z_int : mg "int" = none
  z_bool : mg "bool" = none
  z_abs : mg "abs" = none
  z_len : mg "len" = none
  z_list : mg "list" = none
  z_str : mg "str" = none
  z_range : mg "range" = none
  z_isinstance : mg "isinstance" = none
  z_repr : mg "repr" = none
  z_sorted : mg "sorted" = none
  z_dict : mg "dict" = none
  z_ValueError : mg "ValueError" = none
open KV


section
variable {P : Program} {w : World} {K : PySem.W.Frag} {mg : Str → Option Value} {base : Heap}
theorem ok_pen {f : Addr} {fd : FuncData} {k : Nat} (F : Fun K "_law_pen" "_law_pen" s__law_pen f fd) (T : Txt mg) : FnOk P w K mg base CX0 (k + 1) f fd ["_law_script"] (spPen K) := by
  refine F.ok sc__law_pen (fun vs H Q E h => ?_) (fun cdv A outer s H vs Q E hr h => ?_)
  · obtain ⟨a, ns, rfl, _⟩ := h
    rfl
  · obtain ⟨a, ns, rfl, hS, hl, q⟩ := h
    refine ⟨_, (pss_one (ps_ret (pe_lst (pa_cons (pe_callTy call_list_of (by rfl) T.z_list (by decide +kernel) (pa_cons (pe_slice sl_list (pv 0) po_none (po_some pe_int)) pa_nil)) (pa_cons pe_int (pa_cons pe_int pa_nil)))))), at_start (σ := [some (.ref a)]) rfl ?_⟩
    dsimp only [cx_K]
    walk_at "rd"
    intro c nc
    have ec : cutV (ns.map V.int) none (some 63) = (ns.take 63).map V.int := by
      rw [show (63 : Int) = ((63 : Nat) : Int) from rfl, cutV_take, List.map_take]
    rw [ec]
    walk_at "rd"
    intro l nl
    walk_at "rd"
    refine ⟨by walk_at "sz", fun p np => ?_⟩
    have npl : p ≠ l := fun z => by rw [z, upd_same] at np; cases np
    have s0 := ((same_new (o := .lst ((ns.take 63).map V.int)) nc).trans (same_new (o := .lst ((ns.take 63).map V.int)) nl)).trans (same_new (o := .lst [.ref l, .int 0, .int 0]) np)
    refine q _ p l s0 (((same_new nc).trans (same_new nl)).free np) ((same_new nc).free nl) ⟨ns.take 63, 0, 0, upd_same, upd_new np upd_same, npl, ?_, by omega⟩
    rw [List.length_take]
    omega
theorem ok_draw {f : Addr} {fd : FuncData} {k : Nat} (F : Fun K "_law_draw" "_law_draw" s__law_draw f fd) (T : Txt mg) : FnOk P w K mg base CX0 (k + 1) f fd ["_law_pen_here", "_law_many"] spDraw := by
  refine F.ok sc__law_draw (fun vs H Q E h => ?_) (fun cdv A outer s H vs Q E hr h => ?_)
  · obtain ⟨p, c, many, k, rfl, _⟩ := h
    rfl
  · obtain ⟨p, c, many, k, rfl, hm0, hm1, ⟨ns, at_, left, hp, hc, npc, hn, hat⟩, q⟩ := h
    refine ⟨_, (pss_cons (ps_if (pt_cmpR op_gt (pe_ix ix_list (pv 0) pe_int (fun _ _ => rfl)) pe_int (nomark _)) (pss_cons (ps_set (i := 2) sc__law_draw.nd rfl (by first | exact Or.inl rfl | exact Or.inr rfl) (pe_op op_mod (pe_callTy call_int1 (by rfl) T.z_int (by decide +kernel) (pa_cons (pe_ix ix_list (pv 0) pe_int (fun _ _ => rfl)) pa_nil)) (pv 1)))
 (pss_cons (ps_asg (pe_op op_fdiv (pe_callTy call_int1 (by rfl) T.z_int (by decide +kernel) (pa_cons (pe_ix ix_list (pv 0) pe_int (fun _ _ => rfl)) pa_nil)) (pv 1)) (pg_sub (pv 0) pe_int set_list))
 (pss_one (ps_ret (pv 2)))))
 pss_nil)
 (pss_cons (ps_set (i := 3) sc__law_draw.nd rfl (by first | exact Or.inl rfl | exact Or.inr rfl) (pe_ix ix_list (pv 0) pe_int (fun _ _ => rfl)))
 (pss_cons (ps_asg (pe_op op_add (pv 3) pe_int) (pg_sub (pv 0) pe_int set_list))
 (pss_cons (ps_set (i := 4) sc__law_draw.nd rfl (by first | exact Or.inl rfl | exact Or.inr rfl) (pe_op op_add (pe_op op_mul pe_int (pv 3)) pe_int))
 (Evl.pss_cut (ps_if (pt_cmpR (op_neD hr.units) (pe_ix ix_list (pv 0) pe_int (fun _ _ => rfl)) (pe_lst pa_nil) (nomark _)) (pss_one (ps_set (i := 4) sc__law_draw.nd rfl (by first | exact Or.inl rfl | exact Or.inr rfl) (pe_ix ix_list (pe_ix ix_list (pv 0) pe_int (fun _ _ => rfl)) (pe_op op_mod (pe_callTy call_int1 (by rfl) T.z_int (by decide +kernel) (pa_cons (pv 3) pa_nil)) (pe_callB call_len_seq (by rfl) T.z_len (by decide +kernel) (pa_cons (pe_ix ix_list (pv 0) pe_int (fun _ _ => rfl)) pa_nil))) (fun _ _ => rfl))))
 pss_nil)
 (pss_cons (ps_if (PW.pt (pw_and (pt_cmpR op_lt (pv 3) (pe_callB call_len_seq (by rfl) T.z_len (by decide +kernel) (pa_cons (pe_ix ix_list (pv 0) pe_int (fun _ _ => rfl)) pa_nil)) (nomark _)) (pw_and1 (pt_cmpR op_ge (pe_callB call_abs (by rfl) T.z_abs (by decide +kernel) (pa_cons (pv 4) pa_nil)) (pe_op op_pow pe_int pe_int) (nomark _))))) (pss_cons (ps_set (i := 5) sc__law_draw.nd rfl (by first | exact Or.inl rfl | exact Or.inr rfl) (pe_op op_add (pe_op op_mul pe_int (pe_callB call_abs (by rfl) T.z_abs (by decide +kernel) (pa_cons (pv 4) pa_nil))) (pe_callTy call_int1 (by rfl) T.z_int (by decide +kernel) (pa_cons (pe_cmpR op_lt (pv 4) pe_int (nomark _)) pa_nil))))
 (pss_cons (ps_asg (pe_op op_fdiv (pv 5) (pv 1)) (pg_sub (pv 0) pe_int set_list))
 (pss_one (ps_ret (pe_op op_mod (pe_callTy call_int1 (by rfl) T.z_int (by decide +kernel) (pa_cons (pv 5) pa_nil)) (pv 1))))))
 pss_nil)
 (pss_cons (ps_set (i := 6) sc__law_draw.nd rfl (by first | exact Or.inl rfl | exact Or.inr rfl) (pe_op op_mod (pe_op op_pow (pe_callTy call_int1 (by rfl) T.z_int (by decide +kernel) (pa_cons (pe_op op_add (pe_op op_add (pe_op op_mod (pe_callTy call_int1 (by rfl) T.z_int (by decide +kernel) (pa_cons (pv 4) pa_nil)) pe_int) (pe_op op_mul pe_int (pv 3))) pe_int) pa_nil)) pe_int) pe_int))
 (pss_cons (ps_set (i := 6) sc__law_draw.nd rfl (by first | exact Or.inl rfl | exact Or.inr rfl) (pe_op op_mod (pe_op op_pow (pe_callTy call_int1 (by rfl) T.z_int (by decide +kernel) (pa_cons (pe_op op_add (pe_op op_add (pe_op op_mul (pv 6) (pe_op op_add (pv 3) pe_int)) (pe_op op_mul (pe_op op_mul pe_int (pv 3)) (pv 3))) pe_int) pa_nil)) pe_int) pe_int))
 (pss_one (ps_ret (pe_op op_mod (pe_callTy call_int1 (by rfl) T.z_int (by decide +kernel) (pa_cons (pe_op op_fdiv (pv 6) pe_int) pa_nil)) (pv 1)))))))))))), at_start (σ := [some (.ref p), some (.int many), none, none, none, none, none]) rfl ?_⟩
    dsimp only [cx_K]
    walk_at "rd"
    have upp : ∀ o, upd H p o c = some (.lst (ns.map V.int)) := fun o => by rw [upd_ne npc.symm]; exact hc
    refine r_ite2 (fun h1 => ?_) (fun h1 => ?_)
    · walk_at "rd"
      exact q (left % many) _ (Int.emod_nonneg _ (by omega)) (Int.emod_lt_of_pos _ hm0) ⟨ns, at_, left / many, upd_same, upp _, npc, hn, by omega⟩ fun b o e hb => by rw [upd_ne hb]; exact e
    · walk_at "rd"
      refine ⟨fun σ' H' => ∃ cell : Int, σ' = [some (.ref p), some (.int many), none, some (.int at_), some (.int cell), none, none] ∧ H' p = some (.lst [.ref c, .int (at_ + 1), .int left]) ∧ H' c = some (.lst (ns.map V.int)) ∧ Keep p H H', ?_, ?_⟩
      · walk_at "rd"
        refine ⟨by decide, fun e he => ?_⟩
        have npe : p ≠ e := fun z => by rw [z, upd_same] at he; cases he
        refine r_neInts (ns := ns) (ms := []) (by walk_at "sq") (SqL.of upd_same) ?_
        walk_at "rd"
        have k1 : Keep p H (upd (upd H p (.lst [.ref c, .int (at_ + 1), .int left])) e (.lst [])) := fun b o x hb => upd_new he (by rw [upd_ne hb]; exact x)
        refine r_iteN2 (fun h2 => ?_) (fun h2 => ?_)
        · walk_at "rd"
          have hl : 0 < ns.length := List.length_pos_iff.mpr h2
          rw [List.length_map]
          have hj : (at_ : Int) % (ns.length : Int) = ((at_ % ns.length : Nat) : Int) := by omega
          have hj2 : at_ % ns.length < ns.length := Nat.mod_lt _ hl
          refine r_I (by show (0 : Int) < _; omega) ?_
          refine r_ixL (xs := ns.map V.int) (v := .int (ns[at_ % ns.length])) (by walk_at "sq") (by rw [hj]; exact atI_nat (by simp [hj2])) ?_
          exact ⟨_, rfl, upd_new he upd_same, upd_new he (upp _), k1⟩
        · exact ⟨_, rfl, upd_new he upd_same, upd_new he (upp _), k1⟩
      · rintro σ' H' ⟨cell, rfl, hp1, hc1, k1⟩
        have h6 : ∀ (r : Int) (l2 : Int), 0 ≤ r → r < many → Q (.int r) (upd H' p (.lst [.ref c, .int ((at_ + 1 : Nat) : Int), .int l2])) := fun r l2 h7 h8 =>
          q r _ h7 h8 ⟨ns, at_ + 1, l2, upd_same, by rw [upd_ne npc.symm]; exact hc1, npc, hn, by omega⟩ fun b o x hb => by rw [upd_ne hb]; exact k1 b o x hb
        have h9 : ∀ r : Int, 0 ≤ r → r < many → Q (.int r) H' := fun r h7 h8 => q r _ h7 h8 ⟨ns, at_ + 1, left, hp1, hc1, npc, hn, by omega⟩ k1
        walk_at "rd"
        refine r_ite2 (fun h2 => ?_) (fun h2 => ?_)
        · walk_at "rd"
          refine r_ite2 (fun h3 => ?_) (fun h3 => ?_)
          · walk_at "rd"
            exact h6 _ _ (Int.emod_nonneg _ (by omega)) (Int.emod_lt_of_pos _ hm0)
          · walk_at "rd"
            have m1 : 0 ≤ (cell % 2147483579 + 57131 * (at_ : Int) + 211) ^ Int.toNat 5 % 2147483629 := Int.emod_nonneg _ (by decide)
            have m2 : (cell % 2147483579 + 57131 * (at_ : Int) + 211) ^ Int.toNat 5 % 2147483629 < 2147483629 := Int.emod_lt_of_pos _ (by decide)
            generalize (cell % 2147483579 + 57131 * (at_ : Int) + 211) ^ Int.toNat 5 % 2147483629 = m at m1 m2 ⊢
            have b1 := mul_bd (A := 2147483629) (B := 300000) m1 (by omega) (show 0 ≤ (at_ : Int) + 64007 by omega) (by omega)
            have b2 := mul_bd (A := 100000 * 91009) (B := 100000) (show 0 ≤ 91009 * (at_ : Int) by omega) (by omega) (show 0 ≤ (at_ : Int) by omega) (by omega)
            refine r_I (show CPow _ _ from ⟨by decide, by decide, by omega⟩) ?_
            walk_at "rd"
            exact h9 _ (Int.emod_nonneg _ (by omega)) (Int.emod_lt_of_pos _ hm0)

        · walk_at "rd"
          have m1 : 0 ≤ (cell % 2147483579 + 57131 * (at_ : Int) + 211) ^ Int.toNat 5 % 2147483629 := Int.emod_nonneg _ (by decide)
          have m2 : (cell % 2147483579 + 57131 * (at_ : Int) + 211) ^ Int.toNat 5 % 2147483629 < 2147483629 := Int.emod_lt_of_pos _ (by decide)
          generalize (cell % 2147483579 + 57131 * (at_ : Int) + 211) ^ Int.toNat 5 % 2147483629 = m at m1 m2 ⊢
          have b1 := mul_bd (A := 2147483629) (B := 300000) m1 (by omega) (show 0 ≤ (at_ : Int) + 64007 by omega) (by omega)
          have b2 := mul_bd (A := 100000 * 91009) (B := 100000) (show 0 ≤ 91009 * (at_ : Int) by omega) (by omega) (show 0 ≤ (at_ : Int) by omega) (by omega)
          refine r_I (show CPow _ _ from ⟨by decide, by decide, by omega⟩) ?_
          walk_at "rd"
          exact h9 _ (Int.emod_nonneg _ (by omega)) (Int.emod_lt_of_pos _ hm0)

end

end K04


namespace K04
open PySem L2 KB KO KY KV KW
/-! ### words and blends -/
def W3 (w : Nat) : Prop := w = 8 ∨ w = 16 ∨ w = 32
theorem W3.le {w : Nat} (h : W3 w) : 8 ≤ w ∧ w ≤ 32 := by
  rcases h with rfl | rfl | rfl <;> decide
theorem W3.pow {w : Nat} (h : W3 w) : 2 ^ w ≤ 4294967296 := by
  rcases h with rfl | rfl | rfl <;> decide
def isIntD : Dt → Bool
  | .sc (.int _) => true
  | _ => false
def isBoolD : Dt → Bool
  | .sc (.bl _) => true
  | _ => false
def isW : Dt → Bool
  | .sc (.int i) => decide (i = 8 ∨ i = 16 ∨ i = 32)
  | _ => false
def isWord (w : Nat) : Dt → Bool
  | .sc (.int i) => decide (0 ≤ i ∧ i < (2 ^ w : Nat))
  | _ => false
def isShift (w : Nat) : Dt → Bool
  | .sc (.int i) => decide (0 - (w : Int) ≤ i ∧ i ≤ w)
  | _ => false
theorem isIntD_of {t : Dt} (h : isIntD t = true) : ∃ i, t = .sc (.int i) := by
  cases t with
  | sc s => cases s with
    | int i => exact ⟨i, rfl⟩
    | non => cases h
    | bl => cases h
    | str => cases h
  | tup => cases h
  | lst => cases h
  | dct => cases h
theorem isW_of {t : Dt} (h : isW t = true) : ∃ w : Nat, W3 w ∧ t = .sc (.int w) := by
  cases t with
  | sc s => cases s with
    | int i =>
      have h' : i = 8 ∨ i = 16 ∨ i = 32 := of_decide_eq_true h
      rcases h' with rfl | rfl | rfl
      · exact ⟨8, .inl rfl, rfl⟩
      · exact ⟨16, .inr (.inl rfl), rfl⟩
      · exact ⟨32, .inr (.inr rfl), rfl⟩
    | non => cases h
    | bl => cases h
    | str => cases h
  | tup => cases h
  | lst => cases h
  | dct => cases h
theorem isWord_of {w : Nat} {t : Dt} (h : isWord w t = true) : ∃ n : Nat, n < 2 ^ w ∧ t = .sc (.int n) := by
  cases t with
  | sc s => cases s with
    | int i =>
      have h' : 0 ≤ i ∧ i < (2 ^ w : Nat) := of_decide_eq_true h
      exact ⟨i.toNat, by omega, by rw [show ((i.toNat : Nat) : Int) = i by omega]⟩
    | non => cases h
    | bl => cases h
    | str => cases h
  | tup => cases h
  | lst => cases h
  | dct => cases h
theorem isShift_of {w : Nat} {t : Dt} (h : isShift w t = true) : ∃ s : Int, 0 - (w : Int) ≤ s ∧ s ≤ w ∧ t = .sc (.int s) := by
  cases t with
  | sc s => cases s with
    | int i =>
      have h' : 0 - (w : Int) ≤ i ∧ i ≤ w := of_decide_eq_true h
      exact ⟨i, h'.1, h'.2, rfl⟩
    | non => cases h
    | bl => cases h
    | str => cases h
  | tup => cases h
  | lst => cases h
  | dct => cases h
theorem isWord_nat {w n : Nat} (h : n < 2 ^ w) : isWord w (.sc (.int n)) = true := decide_eq_true ⟨by omega, by omega⟩
theorem isW_nat {w : Nat} (h : W3 w) : isW (.sc (.int w)) = true := by
  rcases h with rfl | rfl | rfl <;> rfl
theorem noInt_noW {t : Dt} (h : isIntD t = false) : isW t = false ∧ (∀ w, isWord w t = false) ∧ ∀ w, isShift w t = false := by
  cases t with
  | sc s => cases s with
    | int i => cases h
    | non => exact ⟨rfl, fun _ => rfl, fun _ => rfl⟩
    | bl => exact ⟨rfl, fun _ => rfl, fun _ => rfl⟩
    | str => exact ⟨rfl, fun _ => rfl, fun _ => rfl⟩
  | tup => exact ⟨rfl, fun _ => rfl, fun _ => rfl⟩
  | lst => exact ⟨rfl, fun _ => rfl, fun _ => rfl⟩
  | dct => exact ⟨rfl, fun _ => rfl, fun _ => rfl⟩
theorem r_isIntD {K : PySem.W.Frag} {H : Hp} {Q : VK} {v : V} {t : Dt} (h : OdAt H v t) (q : Q (.bl (isIntD t || isBoolD t)) H) : rIsi K [v, .ty "int"] H Q := by
  refine ⟨v, .ty "int", _, .type "int", isIntD t || isBoolD t, rfl, .ty _, h.tyX, ?_, q⟩
  have h1 : kitB "NoneType" "int" = some false ∧ kitB "bool" "int" = some true ∧ kitB "int" "int" = some true ∧ kitB "str" "int" = some false ∧ kitB "tuple" "int" = some false ∧ kitB "list" "int" = some false ∧ kitB "dict" "int" = some false := by decide +kernel
  cases t with
  | sc s =>
    cases s with
    | non => exact kit_ty h1.1
    | bl b => exact kit_ty h1.2.1
    | int i => exact kit_ty h1.2.2.1
    | str x => exact kit_ty h1.2.2.2.1
  | tup l => exact kit_ty h1.2.2.2.2.1
  | lst l => exact kit_ty h1.2.2.2.2.2.1
  | dct l => exact kit_ty h1.2.2.2.2.2.2
theorem r_isBoolD {K : PySem.W.Frag} {H : Hp} {Q : VK} {v : V} {t : Dt} (h : OdAt H v t) (q : Q (.bl (isBoolD t)) H) : rIsi K [v, .ty "bool"] H Q := by
  refine ⟨v, .ty "bool", _, .type "bool", isBoolD t, rfl, .ty _, h.tyX, ?_, q⟩
  have h1 : kitB "NoneType" "bool" = some false ∧ kitB "bool" "bool" = some true ∧ kitB "int" "bool" = some false ∧ kitB "str" "bool" = some false ∧ kitB "tuple" "bool" = some false ∧ kitB "list" "bool" = some false ∧ kitB "dict" "bool" = some false := by decide +kernel
  cases t with
  | sc s =>
    cases s with
    | non => exact kit_ty h1.1
    | bl b => exact kit_ty h1.2.1
    | int i => exact kit_ty h1.2.2.1
    | str x => exact kit_ty h1.2.2.2.1
  | tup l => exact kit_ty h1.2.2.2.2.1
  | lst l => exact kit_ty h1.2.2.2.2.2.1
  | dct l => exact kit_ty h1.2.2.2.2.2.2
/-- what the text's classes are -/
structure TxtB (K : PySem.W.Frag) (mg : Str → Option Value) (C aW : Addr) : Prop extends Txt mg where
  cl : Cls K C
  n_width : NoAttr K C "width"
  n_shift : NoAttr K C "shift"
  n_keep : NoAttr K C "keep"
  n_flip : NoAttr K C "flip"
  mg_Blend : mg "Blend" = some (.ref C)
  mg_WIDTHS : mg "WIDTHS" = some (.ref aW)
  widths : ∀ H, SqT K H aW (([8, 16, 32] : List Int).map V.int)
def flB (w s k f : Int) : List (Str × V) := [("width", .int w), ("shift", .int s), ("keep", .int k), ("flip", .int f)]
theorem fb_w {w s k f : Int} : (flB w s k f).lookup ("width" : Str) = some (.int w) := rfl
theorem fb_s {w s k f : Int} : (flB w s k f).lookup ("shift" : Str) = some (.int s) := rfl
theorem fb_k {w s k f : Int} : (flB w s k f).lookup ("keep" : Str) = some (.int k) := rfl
theorem fb_f {w s k f : Int} : (flB w s k f).lookup ("flip" : Str) = some (.int f) := rfl
/-- the blend of the width w: its numbers -/
structure Nm (w : Nat) (s : Int) (k f : Nat) : Prop where
  w3 : W3 w
  lo : 0 - (w : Int) ≤ s
  hi : s ≤ w
  kl : k < 2 ^ w
  fl : f < 2 ^ w
def BlendAt (C : Addr) (H : Hp) (p : Addr) (w : Nat) (s : Int) (k f : Nat) : Prop := Nm w s k f ∧ ∃ dx, H p = some (.ins C dx (flB w s k f))
theorem BlendAt.up {C : Addr} {H H' : Hp} {p : Addr} {w : Nat} {s : Int} {k f : Nat} (h : BlendAt C H p w s k f) (e : Same H H') : BlendAt C H' p w s k f := by
  obtain ⟨n, dx, g⟩ := h
  exact ⟨n, dx, e _ _ g⟩
def spInt : Sp := fun vs H Q _ => ∃ (v : V) (t : Dt), vs = [v] ∧ OdAt H v t ∧ Q (.bl (isIntD t)) H
def spNW (CE : Addr) : Sp := fun vs H Q E => ∃ (v : V) (t : Dt), vs = [v] ∧ OdAt H v t ∧ (isW t = true → Q .non H) ∧ (isW t = false → ∀ d H', Same H H' → H' d = some (.xd [("value", v)]) → E (.ref CE) (some d) H')
def spOnes : Sp := fun vs H Q _ => ∃ w : Nat, vs = [.int w] ∧ w ≤ 32 ∧ Q (.int (KBL.onesN w : Nat)) H
def spIsWord : Sp := fun vs H Q _ => ∃ (w : Nat) (v : V) (t : Dt), vs = [.int w, v] ∧ W3 w ∧ OdAt H v t ∧ Q (.bl (isWord w t)) H
def spNeed (CE : Addr) : Sp := fun vs H Q E => ∃ (w : Nat) (v : V) (t : Dt), vs = [.int w, v] ∧ W3 w ∧ OdAt H v t ∧ (isWord w t = true → Q .non H) ∧ (isWord w t = false → ∀ d H', Same H H' → H' d = some (.xd [("value", v)]) → E (.ref CE) (some d) H')
def spSh : Sp := fun vs H Q _ => ∃ (w v : Nat) (s : Int), vs = [.int v, .int w, .int s] ∧ W3 w ∧ v < 2 ^ w ∧ 0 - (w : Int) ≤ s ∧ s ≤ w ∧ Q (.int (KBL.shN w v s : Nat)) H
/-- the mask that is meant -/
def maskOf (w : Nat) : Dt → Nat
  | .sc (.int i) => i.toNat
  | _ => KBL.onesN w
def isNoneD : Dt → Bool
  | .sc .non => true
  | _ => false
/-- Blend(v1, v2, v3, v4); cW, cS, cR: InvalidWidth, InvalidShift, InvalidWord -/
def spBlend (C cW cS cR : Addr) : Sp := fun vs H Q E => ∃ (p dx : Addr) (v1 v2 v3 v4 : V) (t1 t2 t3 t4 : Dt), vs = [.ref p, v1, v2, v3, v4] ∧ H p = some (.ins C dx []) ∧ OdAt H v1 t1 ∧ OdAt H v2 t2 ∧ OdAt H v3 t3 ∧ OdAt H v4 t4 ∧
  (isW t1 = false → ∀ d H', Same H H' → H' d = some (.xd [("value", v1)]) → E (.ref cW) (some d) H') ∧
  (∀ w : Nat, t1 = .sc (.int w) → W3 w → isShift w t2 = false → ∀ d H', Same H H' → H' d = some (.xd [("value", v2)]) → E (.ref cS) (some d) H') ∧
  (∀ w : Nat, t1 = .sc (.int w) → W3 w → isShift w t2 = true → isNoneD t3 = false → isWord w t3 = false → ∀ d H', Same H H' → H' d = some (.xd [("value", v3)]) → E (.ref cR) (some d) H') ∧
  (∀ w : Nat, t1 = .sc (.int w) → W3 w → isShift w t2 = true → (isNoneD t3 = true ∨ isWord w t3 = true) → isWord w t4 = false → ∀ d H', Same H H' → H' d = some (.xd [("value", v4)]) → E (.ref cR) (some d) H') ∧
  (∀ (w : Nat) (s : Int) (f : Nat), t1 = .sc (.int w) → t2 = .sc (.int s) → t4 = .sc (.int f) → (isNoneD t3 = true ∨ isWord w t3 = true) → Nm w s (KBL.keepN w s (maskOf w t3)) f → ∀ H', BlendAt C H' p w (KBL.shiftN w s (maskOf w t3)) (KBL.keepN w s (maskOf w t3)) f → Keep p H H' → Q .non H')
def spBEq (K : PySem.W.Frag) (C : Addr) : Sp := fun vs H Q _ => (∃ (p p' : Addr) (w w' : Nat) (s s' : Int) (k k' f f' : Nat), vs = [.ref p, .ref p'] ∧ BlendAt C H p w s k f ∧ BlendAt C H p' w' s' k' f' ∧ Q (.bl (decide (w = w' ∧ s = s' ∧ k = k' ∧ f = f'))) H) ∨
  ∃ (p : Addr) (y : V) (w : Nat) (s : Int) (k f : Nat) (T : String), vs = [.ref p, y] ∧ BlendAt C H p w s k f ∧ TyX K H y (.type T) ∧ PySem.W.kitOne K (.type T) (.ref C) = some false ∧ Q (.bl false) H
def spBRepr (C : Addr) : Sp := fun vs H Q _ => ∃ (p : Addr) (w : Nat) (s : Int) (k f : Nat), vs = [.ref p] ∧ BlendAt C H p w s k f ∧ Q (.str (KBL.bText w s k f)) H
def spBCall (C cR : Addr) : Sp := fun vs H Q E => ∃ (p : Addr) (w : Nat) (s : Int) (k f : Nat) (v : V) (t : Dt), vs = [.ref p, v] ∧ BlendAt C H p w s k f ∧ OdAt H v t ∧
  (∀ n : Nat, n < 2 ^ w → t = .sc (.int n) → Q (.int ((f ^^^ (k &&& KBL.shN w n s) : Nat) : Int)) H) ∧ (isWord w t = false → ∀ d H', Same H H' → H' d = some (.xd [("value", v)]) → E (.ref cR) (some d) H')
theorem non_of {H : Hp} {v : V} {t : Dt} (h : OdAt H v t) : (isNoneD t = true → v = .non) ∧ (isNoneD t = false → v ≠ .non) := by
  cases t with
  | sc s =>
    obtain rfl : v = s.v := h
    cases s with
    | non => exact ⟨fun _ => rfl, fun z => by cases z⟩
    | bl => exact ⟨(fun z => by cases z), fun _ z => by cases z⟩
    | int => exact ⟨(fun z => by cases z), fun _ z => by cases z⟩
    | str => exact ⟨(fun z => by cases z), fun _ z => by cases z⟩
  | tup l => obtain ⟨a, rfl, _⟩ := h; exact ⟨(fun z => by cases z), fun _ z => by cases z⟩
  | lst l => obtain ⟨a, rfl, _⟩ := h; exact ⟨(fun z => by cases z), fun _ z => by cases z⟩
  | dct l => obtain ⟨a, rfl, _⟩ := h; exact ⟨(fun z => by cases z), fun _ z => by cases z⟩
theorem keep_ones (w : Nat) (s : Int) : KBL.shN w (KBL.onesN w) s = KBL.keepN w s (KBL.onesN w) := by
  unfold KBL.keepN
  conv => rhs; rw [show KBL.onesN w = 2 ^ w - 1 from rfl]
  rw [Nat.and_two_pow_sub_one_eq_mod]
  exact (Nat.mod_eq_of_lt (KBL.sh_lt (KBL.ones_lt w))).symm
theorem isShift_int (w : Nat) (i : Int) : isShift w (.sc (.int i)) = decide (0 - (w : Int) ≤ i ∧ i ≤ w) := rfl
theorem numBits {w : Nat} {s : Int} {k f : Nat} (h : Nm w s k f) : (w : Int).natAbs.log2 < 1920 ∧ s.natAbs.log2 < 1920 ∧ (k : Int).natAbs.log2 < 1920 ∧ (f : Int).natAbs.log2 < 1920 := by
  have small : ∀ n : Nat, n < 4294967297 → n.log2 < 1920 := fun n hn => by
    by_cases z : n = 0
    · rw [z]; decide
    · exact (Nat.log2_lt z).mpr (Nat.lt_of_lt_of_le hn (by
        have : (4294967297 : Nat) ≤ 2 ^ 33 := by decide
        exact Nat.le_trans this (Nat.pow_le_pow_right (by decide) (by decide))))
  have wp := h.w3.pow
  have wl := h.w3.le
  have := h.lo
  have := h.hi
  have := h.kl
  have := h.fl
  exact ⟨small _ (by omega), small _ (by omega), small _ (by omega), small _ (by omega)⟩
/-! ### {8: a, 16: b, 32: c}[w] -/
def pickW (w : Nat) (a b c : Int) : Int := if w = 8 then a else if w = 16 then b else c
theorem wdict_val {w : Nat} (w3 : W3 w) (a b c : Int) : valV (mergeK [] [((Sum.inl 8 : Key), V.int a), (Sum.inl 16, .int b), (Sum.inl 32, .int c)]) (Sum.inl (w : Int)) = some (.int (pickW w a b c)) := by
  rcases w3 with rfl | rfl | rfl <;> rfl
theorem r_wdict {σ : L2.St} {H : Hp} {Q : VK} {a b c : Int} {tk : TE} {w : Nat} (w3 : W3 w) (hk : ∀ (H' : Hp) (Q' : VK), Q' (.int w) H' → tk σ H' Q') (q : ∀ H', Same H H' → Q (.int (pickW w a b c)) H') :
    ∀ p, H p = none → tPairs [(tC (.int 8), tC (.int a)), (tC (.int 16), tC (.int b)), (tC (.int 32), tC (.int c))] σ (upd H p (.dK [])) fun ps H2 => H2 p = some (.dK []) ∧ ∃ kvs : List (Key × V), ps = kvs.map (fun kv => (kV kv.1, kv.2)) ∧ kvs.length ≤ 15 ∧
      tk σ (upd H2 p (.dK (mergeK [] kvs))) fun y H2 => ∃ a v, V.ref p = .ref a ∧ DGet H2 a y (some v) ∧ Q v H2 := by
  intro p np
  refine ⟨upd_same, [(.inl 8, .int a), (.inl 16, .int b), (.inl 32, .int c)], rfl, by simp, hk _ _ ⟨p, _, rfl, ?_, q _ ?_⟩⟩
  · exact wdict_val w3 a b c ▸ DGet.k (k := .inl (w : Int)) upd_same
  · exact same_mut (same_new np) np
theorem mono_var1 {i : Nat} {v : V} {σ : L2.St} (h : σ[i]? = some (some v)) (H : Hp) (Q : VK) (q : Q v H) : tVar i σ H Q := ⟨v, h, q⟩
theorem top_is {w : Nat} (w3 : W3 w) : pickW w 255 65535 4294967295 = ((KBL.onesN w : Nat) : Int) := by
  rcases w3 with rfl | rfl | rfl <;> rfl


section
variable {P : Program} {w : World} {K : PySem.W.Frag} {mg : Str → Option Value} {base : Heap}
theorem ok_int {f : Addr} {fd : FuncData} {k : Nat} (F : Fun K "is_integer" "is_integer" s_is_integer f fd) (T : Txt mg) : FnOk P w K mg base CX0 (k + 1) f fd ["value"] spInt := by
  refine F.ok sc_is_integer (fun vs H Q E h => ?_) (fun cdv A outer s H vs Q E hr h => ?_)
  · obtain ⟨v, t, rfl, _⟩ := h
    rfl
  · obtain ⟨v, t, rfl, od, q⟩ := h
    refine ⟨_, (pss_one (ps_ret (pe_and (pe_callB call_isi (by rfl) T.z_isinstance (by decide +kernel) (pa_cons (pv 0) (pa_cons (pe_bltn (v := .ty "int") (by rfl) T.z_int (by decide +kernel) rfl) pa_nil))) (pe_one (pe_not (pe_callB call_isi (by rfl) T.z_isinstance (by decide +kernel) (pa_cons (pv 0) (pa_cons (pe_bltn (v := .ty "bool") (by rfl) T.z_bool (by decide +kernel) rfl) pa_nil)))))))), at_start (σ := [some v]) rfl ?_⟩
    try dsimp only [cx_K]
    walk_at "rd"
    refine r_isIntD od ?_
    walk_at "rd"
    refine r_iteB (fun h => ?_) (fun h => ?_)
    · walk_at "rd"
      refine r_isBoolD od ?_
      walk_at "rd"
      have e : (!isBoolD t) = isIntD t := by
        cases t with
        | sc s => cases s <;> first | rfl | cases h
        | tup => cases h
        | lst => cases h
        | dct => cases h
      rw [e]
      exact q
    · have e : isIntD t = false := by
        cases hh : isIntD t with
        | false => rfl
        | true => rw [hh] at h; cases h
      rw [e] at q
      walk_at "rd"
      exact q
theorem ok_nw {f C aW CE : Addr} {fd : FuncData} (F : Fun K "need_width" "need_width" s_need_width f fd) (T : TxtB K mg C aW) (e_InvalidWidth : KX.ErrMk P w K mg base CE "InvalidWidth" "value") (c_is_integer : KB.Callee P w K mg base CX0 1 "is_integer" ["value"] spInt) : FnOk P w K mg base (L2.CX P w) 3 f fd ["width"] (spNW CE) := by
  refine F.okX sc_need_width (fun vs H Q E h => ?_) (fun cdv A outer s H vs Q E hr h => ?_)
  · obtain ⟨v, t, rfl, _⟩ := h
    rfl
  · obtain ⟨v, t, rfl, od, q, x⟩ := h
    refine ⟨_, (pss_one (ps_if (PW.pt (pw_or (pt_not (pt_val (pe_callC c_is_integer (hr.mono (by decide)) (by rfl) pass0 (pa_cons (pv 0) pa_nil)))) (pw_or1 (pt_cmpR op_notIn_seq (pv 0) (pe_glob (v := .ref _) (by rfl) T.mg_WIDTHS rfl) (by rfl))))) (pss_one (ps_raise rfl KL.def_takes (KX.pmkC e_InvalidWidth (hr.mono (by decide)) (by rfl) (pa_cons (pv 0) pa_nil))))
 pss_nil)), at_start (σ := [some v]) rfl ?_⟩
    try dsimp only [KC.cx_KX]
    walk_at "rd"
    refine ⟨v, t, rfl, od, ?_⟩
    walk_at "rd"
    refine r_iteBN (fun z => ?_) (fun z => ?_)
    · walk_at "rd"
      refine KX.r_raiseO ?_ KX.mono_var
      walk_at "rd"
      exact fun d H' sm hd => x (noInt_noW z).1 d H' sm hd
    · obtain ⟨i, rfl⟩ := isIntD_of z
      obtain rfl : v = .int i := od
      walk_at "rd"
      refine r_notInI (zs := [8, 16, 32]) (.inr (T.widths _)) ?_
      walk_at "rd"
      refine r_iteN2 (fun h => ?_) (fun h => ?_)
      · walk_at "rd"
        refine KX.r_raiseO ?_ KX.mono_var
        walk_at "rd"
        exact fun d H' sm hd => x (decide_eq_false (fun y => h (by simpa using y))) d H' sm hd
      · walk_at "rd"
        exact q (decide_eq_true (by simpa using h))
theorem ok_ones {f : Addr} {fd : FuncData} {k : Nat} (F : Fun K "ones" "ones" s_ones f fd) : FnOk P w K mg base CX0 (k + 1) f fd ["width"] spOnes := by
  refine F.ok sc_ones (fun vs H Q E h => ?_) (fun cdv A outer s H vs Q E hr h => ?_)
  · obtain ⟨v, rfl, _⟩ := h
    rfl
  · obtain ⟨w, rfl, hw, q⟩ := h
    refine ⟨_, (pss_one (ps_ret (pe_op op_sub (pe_op op_shl pe_int (pv 0)) pe_int))), at_start (σ := [some (.int w)]) rfl ?_⟩
    try dsimp only [cx_K]
    walk_at "rd"
    have e : ((1 : Int) * 2 ^ ((w : Int)).toNat - 1) = ((KBL.onesN w : Nat) : Int) := by
      have := Nat.two_pow_pos w
      unfold KBL.onesN
      rw [Int.toNat_natCast, Int.one_mul, Int.natCast_sub (by omega), Int.natCast_pow]
      rfl
    rw [e]
    exact q
theorem ok_sh {f : Addr} {fd : FuncData} (F : Fun K "shifted" "shifted" s_shifted f fd) (c_ones : KB.Callee P w K mg base CX0 1 "ones" ["width"] spOnes) : FnOk P w K mg base CX0 2 f fd ["value", "width", "shift"] spSh := by
  refine F.ok sc_shifted (fun vs H Q E h => ?_) (fun cdv A outer s H vs Q E hr h => ?_)
  · obtain ⟨w, v, s, rfl, _⟩ := h
    rfl
  · obtain ⟨w, v, s, rfl, w3, hv, lo, hi, q⟩ := h
    have wl := w3.le
    have wp := w3.pow
    unfold KBL.shN at q
    refine ⟨_, (pss_cons (ps_if (pt_cmpR op_lt (pv 2) pe_int (nomark _)) (pss_one (ps_ret (pe_op op_shr (pv 0) (pe_op op_sub pe_int (pv 2)))))
 pss_nil)
 (pss_one (ps_ret (pe_op op_and (pe_op op_shl (pv 0) (pv 2)) (pe_callC c_ones (hr.mono (by decide)) (by rfl) pass0 (pa_cons (pv 1) pa_nil)))))), at_start (σ := [some (.int v), some (.int w), some (.int s)]) rfl ?_⟩
    try dsimp only [cx_K]
    walk_at "rd"
    refine r_ite2 (fun h => ?_) (fun h => ?_)
    · rw [if_pos h] at q
      walk_at "rd"
      rw [KBL.ofShr]
      exact q
    · rw [if_neg h] at q
      walk_at "rd"
      refine ⟨w, rfl, wl.2, ?_⟩
      walk_at "rd"
      rw [KBL.shl_and]
      exact q
theorem ok_isword {f C aW CE : Addr} {fd : FuncData} (F : Fun K "is_word" "is_word" s_is_word f fd) (c_need_width : KB.Callee P w K mg base (L2.CX P w) 3 "need_width" ["width"] (spNW CE)) (c_is_integer : KB.Callee P w K mg base CX0 1 "is_integer" ["value"] spInt) (c_ones : KB.Callee P w K mg base CX0 1 "ones" ["width"] spOnes) : FnOk P w K mg base CX0 4 f fd ["width", "value"] spIsWord := by
  refine F.ok sc_is_word (fun vs H Q E h => ?_) (fun cdv A outer s H vs Q E hr h => ?_)
  · obtain ⟨w, v, t, rfl, _⟩ := h
    rfl
  · obtain ⟨w, v, t, rfl, w3, od, q⟩ := h
    have wl := w3.le
    refine ⟨_, (pss_cons (ps_expr (pe_callC c_need_width (hr.mono (by decide)) (by rfl) passL (pa_cons (pv 0) pa_nil)))
 (pss_one (ps_ret (pe_and (pe_callC c_is_integer (hr.mono (by decide)) (by rfl) pass0 (pa_cons (pv 1) pa_nil)) (pe_one (pe_chain op_le op_le pe_int (pv 1) (pe_callC c_ones (hr.mono (by decide)) (by rfl) pass0 (pa_cons (pv 0) pa_nil)))))))), at_start (σ := [some (.int w), some v]) rfl ?_⟩
    try dsimp only [cx_K]
    walk_at "rd"
    refine ⟨_, .sc (.int w), rfl, rfl, fun _ => ?_, fun z => by rw [isW_nat w3] at z; cases z⟩
    walk_at "rd"
    refine ⟨v, t, rfl, od, ?_⟩
    walk_at "rd"
    refine r_iteB (fun z => ?_) (fun z => ?_)
    · obtain ⟨i, rfl⟩ := isIntD_of z
      obtain rfl : v = .int i := od
      walk_at "rd"
      have e : isWord w (.sc (.int i)) = decide (0 ≤ i ∧ i ≤ (KBL.onesN w : Nat)) := by
        have := Nat.two_pow_pos w
        show decide (0 ≤ i ∧ i < (2 ^ w : Nat)) = _
        unfold KBL.onesN
        by_cases h : 0 ≤ i ∧ i < (2 ^ w : Nat)
        · rw [decide_eq_true h, decide_eq_true (by omega)]
        · rw [decide_eq_false h, decide_eq_false (by omega)]
      rw [e] at q
      refine KC.r_chain ?_
      walk_at "rd"
      refine r_ite2 (fun h => ?_) (fun h => ?_)
      · walk_at "rd"
        refine ⟨w, rfl, wl.2, ?_⟩
        walk_at "rd"
        have e2 : decide (i ≤ ((KBL.onesN w : Nat) : Int)) = decide (0 ≤ i ∧ i ≤ (KBL.onesN w : Nat)) := by
          by_cases h2 : i ≤ ((KBL.onesN w : Nat) : Int)
          · rw [decide_eq_true h2, decide_eq_true ⟨h, h2⟩]
          · rw [decide_eq_false h2, decide_eq_false (fun y => h2 y.2)]
        rw [e2]
        exact q
      · walk_at "rd"
        rw [decide_eq_false (fun y => h y.1)] at q
        exact q
    · walk_at "rd"
      rw [(noInt_noW z).2.1 w] at q
      exact q
theorem ok_need {f CE : Addr} {fd : FuncData} (F : Fun K "need_word" "need_word" s_need_word f fd) (e_InvalidWord : KX.ErrMk P w K mg base CE "InvalidWord" "value") (c_is_word : KB.Callee P w K mg base CX0 4 "is_word" ["width", "value"] spIsWord) : FnOk P w K mg base (L2.CX P w) 5 f fd ["width", "value"] (spNeed CE) := by
  refine F.okX sc_need_word (fun vs H Q E h => ?_) (fun cdv A outer s H vs Q E hr h => ?_)
  · obtain ⟨w, v, t, rfl, _⟩ := h
    rfl
  · obtain ⟨w, v, t, rfl, w3, od, q, x⟩ := h
    refine ⟨_, (pss_one (ps_if (pt_not (pt_val (pe_callC c_is_word (hr.mono (by decide)) (by rfl) pass0 (pa_cons (pv 0) (pa_cons (pv 1) pa_nil))))) (pss_one (ps_raise rfl KL.def_takes (KX.pmkC e_InvalidWord (hr.mono (by decide)) (by rfl) (pa_cons (pv 1) pa_nil))))
 pss_nil)), at_start (σ := [some (.int w), some v]) rfl ?_⟩
    try dsimp only [KC.cx_KX]
    walk_at "rd"
    refine ⟨w, v, t, rfl, w3, od, ?_⟩
    walk_at "rd"
    refine r_iteBN (fun z => ?_) (fun z => ?_)
    · walk_at "rd"
      refine KX.r_raiseO ?_ KX.mono_var
      walk_at "rd"
      exact fun d H' sm hd => x z d H' sm hd
    · walk_at "rd"
      exact q z
theorem ok_blend {f C aW cW cS cR : Addr} {fd : FuncData} (F : FunD K "__init__" "Blend.__init__" (defArgs s_Blend___init__) (defBody s_Blend___init__) (defScope s_Blend___init__) [.int 0, .non, .int 0] [] f fd) (T : TxtB K mg C aW) (e_InvalidShift : KX.ErrMk P w K mg base cS "InvalidShift" "value")
    (c_need_width : KB.Callee P w K mg base (L2.CX P w) 3 "need_width" ["width"] (spNW cW)) (c_is_integer : KB.Callee P w K mg base CX0 1 "is_integer" ["value"] spInt) (c_need_word : KB.Callee P w K mg base (L2.CX P w) 5 "need_word" ["width", "value"] (spNeed cR))
    (c_ones : KB.Callee P w K mg base CX0 1 "ones" ["width"] spOnes) (c_shifted : KB.Callee P w K mg base CX0 2 "shifted" ["value", "width", "shift"] spSh) : FnOk P w K mg base (L2.CX P w) 6 f fd ["self", "width", "shift", "keep", "flip"] (spBlend C cW cS cR) := by
  refine F.ok sc_Blend___init__ (fun vs H Q E h => ?_) (fun cdv A outer s H vs Q E hr h => ?_)
  · obtain ⟨p, dx, v1, v2, v3, v4, t1, t2, t3, t4, rfl, _⟩ := h
    rfl
  · obtain ⟨p, dx, v1, v2, v3, v4, t1, t2, t3, t4, rfl, hp, o1, o2, o3, o4, x1, x2, x3, x4, q⟩ := h
    refine ⟨_, (pss_cons (ps_expr (pe_callC c_need_width (hr.mono (by decide)) (by rfl) (passes_call KL.def_takes fun _ _ _ _ h => h) (pa_cons (pv 1) pa_nil)))
 (pss_cons (ps_if (PW.pt (pw_or (pt_not (pt_val (pe_callC c_is_integer (hr.mono (by decide)) (by rfl) pass0 (pa_cons (pv 2) pa_nil)))) (pw_or1 (pt_not (pt_chain op_le op_le (pe_op op_sub pe_int (pv 1)) (pv 2) (pv 1)))))) (pss_one (ps_raise rfl KL.def_takes (KX.pmkC e_InvalidShift (hr.mono (by decide)) (by rfl) (pa_cons (pv 2) pa_nil))))
 pss_nil)
 (Evl.pss_cut (ps_if (pt_cmpR op_notN (pv 3) pe_non (nomark _)) (pss_one (ps_expr (pe_callC c_need_word (hr.mono (by decide)) (by rfl) (passes_call KL.def_takes fun _ _ _ _ h => h) (pa_cons (pv 1) (pa_cons (pv 3) pa_nil)))))
 pss_nil)
 (pss_cons (ps_expr (pe_callC c_need_word (hr.mono (by decide)) (by rfl) (passes_call KL.def_takes fun _ _ _ _ h => h) (pa_cons (pv 1) (pa_cons (pv 4) pa_nil))))
 (pss_cons (ps_set (i := 5) sc_Blend___init__.nd rfl (by first | exact Or.inl rfl | exact Or.inr rfl) (pe_callC c_shifted (hr.mono (by decide)) (by rfl) pass0 (pa_cons (pe_callC c_ones (hr.mono (by decide)) (by rfl) pass0 (pa_cons (pv 1) pa_nil)) (pa_cons (pv 1) (pa_cons (pv 2) pa_nil)))))
 (Evl.pss_cut (ps_if (pt_cmpR op_notN (pv 3) pe_non (nomark _)) (pss_one (ps_set (i := 5) sc_Blend___init__.nd rfl (by first | exact Or.inl rfl | exact Or.inr rfl) (pe_op op_and (pv 5) (pv 3))))
 pss_nil)
 (pss_cons (ps_fld (pv 0) (pv 1) rfl)
 (pss_cons (ps_fld (pv 0) (pe_ifExp (pt_cmpR op_eq (pv 5) pe_int (nomark _)) pe_int (pv 2)) rfl)
 (pss_cons (ps_fld (pv 0) (pv 5) rfl)
 (pss_one (ps_fld (pv 0) (pv 4) rfl))))))))))), at_start (σ := [some (.ref p), some v1, some v2, some v3, some v4, none]) rfl ?_⟩
    try dsimp only [KC.cx_KX]
    walk_at "rd"
    refine ⟨v1, t1, rfl, o1, fun hw => ?_, fun hw d H' sm hd => x1 hw d H' sm hd⟩
    obtain ⟨w, w3, rfl⟩ := isW_of hw
    obtain rfl : v1 = .int w := o1
    replace x2 := x2 w rfl w3
    replace x3 := x3 w rfl w3
    replace x4 := x4 w rfl w3
    walk_at "rd"
    refine ⟨v2, t2, rfl, o2, ?_⟩
    walk_at "rd"
    refine r_iteBN (fun z => ?_) (fun z => ?_)
    · walk_at "rd"
      refine KX.r_raiseO ?_ KX.mono_var
      walk_at "rd"
      exact fun d H' sm hd => x2 ((noInt_noW z).2.2 w) d H' sm hd
    obtain ⟨sh, rfl⟩ := isIntD_of z
    obtain rfl : v2 = .int sh := o2
    walk_at "rd"
    refine KC.r_chain ?_
    walk_at "rd"
    have bad : ¬ (0 - (w : Int) ≤ sh ∧ sh ≤ w) → ∀ (d : Addr) (H' : Hp), Same H H' → H' d = some (.xd [("value", .int sh)]) → E (.ref cS) (some d) H' := fun y => x2 (decide_eq_false y)
    refine r_ite2 (fun lo => ?_) (fun lo => ?_)
    rotate_left
    · walk_at "rd"
      refine KX.r_raiseO ?_ KX.mono_var
      walk_at "rd"
      exact bad fun y => lo y.1
    walk_at "rd"
    refine r_iteN2 (fun hi => ?_) (fun hi => ?_)
    · walk_at "rd"
      refine KX.r_raiseO ?_ KX.mono_var
      walk_at "rd"
      exact bad fun y => hi y.2
    have yes : isShift w (.sc (.int sh)) = true := decide_eq_true ⟨lo, hi⟩
    replace x3 := x3 yes
    replace x4 := x4 yes
    clear x1 x2 bad
    obtain ⟨nn1, nn2⟩ := non_of o3
    walk_at "rd"
    refine ⟨fun σ' H' => σ' = [some (.ref p), some (.int w), some (.int sh), some v3, some v4, none] ∧ H' = H ∧ (isNoneD t3 = true ∨ isWord w t3 = true), ?_, ?_⟩
    · walk_at "rd"
      refine r_iteN2 (fun hn => ?_) (fun hn => ?_)
      · have hn' : isNoneD t3 = false := by
          cases e : isNoneD t3 with
          | false => rfl
          | true => exact absurd (nn1 e) hn
        walk_at "rd"
        refine ⟨w, v3, t3, rfl, w3, o3, fun y => ?_, fun y d H' sm hd => x3 hn' y d H' sm hd⟩
        exact ⟨rfl, rfl, .inr y⟩
      · have hn' : isNoneD t3 = true := by
          cases e : isNoneD t3 with
          | true => rfl
          | false => exact absurd hn (nn2 e)
        walk_at "rd"
        exact ⟨rfl, rfl, .inl hn'⟩
    rintro σ' H' ⟨rfl, rfl, hm⟩
    replace x4 := x4 hm
    clear x3
    walk_at "rd"
    refine ⟨w, v4, t4, rfl, w3, o4, fun y => ?_, fun y d H'' sm hd => x4 y d H'' sm hd⟩
    obtain ⟨f4, fl, rfl⟩ := isWord_of y
    obtain rfl : v4 = .int f4 := o4
    clear x4
    walk_at "rd"
    refine ⟨w, rfl, w3.le.2, ?_⟩
    walk_at "rd"
    refine ⟨w, KBL.onesN w, sh, rfl, w3, KBL.ones_lt w, lo, hi, ?_⟩
    walk_at "rd"
    refine ⟨fun σ' H'' => σ' = [some (.ref p), some (.int w), some (.int sh), some v3, some (.int f4), some (.int ((KBL.keepN w sh (maskOf w t3) : Nat) : Int))] ∧ H'' = H', ?_, ?_⟩
    · walk_at "rd"
      refine r_iteN2 (fun hn => ?_) (fun hn => ?_)
      · obtain ⟨n3, l3, rfl⟩ : ∃ n : Nat, n < 2 ^ w ∧ t3 = .sc (.int n) := by
          rcases hm with y | y
          · exact absurd (nn1 y) hn
          · exact isWord_of y
        obtain rfl : v3 = .int n3 := o3
        walk_at "rd"
        rw [KBL.bAnd]
        exact ⟨rfl, rfl⟩
      · have e3 : maskOf w t3 = KBL.onesN w := by
          rcases hm with y | y
          · cases t3 with
            | sc s => cases s <;> first | rfl | cases y
            | tup => rfl
            | lst => rfl
            | dct => rfl
          · obtain ⟨n, _, rfl⟩ := isWord_of y
            obtain rfl : v3 = .int n := o3
            cases hn
        walk_at "rd"
        rw [keep_ones, ← e3]
        exact ⟨rfl, rfl⟩
    rintro σ' H'' ⟨rfl, rfl⟩
    have nm : Nm w sh (KBL.keepN w sh (maskOf w t3)) f4 := ⟨w3, lo, hi, KBL.keep_lt _ _ _, fl⟩
    replace q := q w sh f4 rfl rfl rfl hm nm
    walk_at "rd"
    refine ⟨p, C, dx, _, rfl, hp, T.cl, T.n_width, (by decide), ?_⟩
    walk_at "rd"
    have fin : ∀ s' : Int, s' = KBL.shiftN w sh (maskOf w t3) → Q .non (upd (upd (upd (upd H'' p (.ins C dx (putF "width" (.int w) []))) p (.ins C dx (putF "shift" (.int s') (putF "width" (.int w) [])))) p (.ins C dx (putF "keep" (.int ((KBL.keepN w sh (maskOf w t3) : Nat) : Int)) (putF "shift" (.int s') (putF "width" (.int w) []))))) p (.ins C dx (putF "flip" (.int f4) (putF "keep" (.int ((KBL.keepN w sh (maskOf w t3) : Nat) : Int)) (putF "shift" (.int s') (putF "width" (.int w) [])))))) := by
      intro s' e
      subst e
      have nm2 : Nm w (KBL.shiftN w sh (maskOf w t3)) (KBL.keepN w sh (maskOf w t3)) f4 := by
        refine ⟨w3, ?_, ?_, nm.kl, fl⟩
        · unfold KBL.shiftN; split <;> omega
        · unfold KBL.shiftN; split <;> omega
      refine q _ ⟨nm2, dx, upd_same⟩ fun b o e hb => ?_
      rw [upd_ne hb, upd_ne hb, upd_ne hb, upd_ne hb]
      exact e
    refine r_ite2 (fun h => ?_) (fun h => ?_)
    · have h' : KBL.keepN w sh (maskOf w t3) = 0 := by have := V.int.inj h; omega
      walk_at "rd"
      refine ⟨p, C, dx, _, rfl, upd_same, T.cl, T.n_shift, putF_lt0 (by decide), ?_⟩
      walk_at "rd"
      refine ⟨p, C, dx, _, rfl, upd_same, T.cl, T.n_keep, putF_lt0 (putF_lt (by decide)), ?_⟩
      walk_at "rd"
      refine ⟨p, C, dx, _, rfl, upd_same, T.cl, T.n_flip, putF_lt0 (putF_lt (putF_lt (by decide))), ?_⟩
      exact fin 0 (by unfold KBL.shiftN; rw [if_pos h'])
    · have h' : ¬ KBL.keepN w sh (maskOf w t3) = 0 := fun z => h (by rw [z]; rfl)
      walk_at "rd"
      refine ⟨p, C, dx, _, rfl, upd_same, T.cl, T.n_shift, putF_lt0 (by decide), ?_⟩
      walk_at "rd"
      refine ⟨p, C, dx, _, rfl, upd_same, T.cl, T.n_keep, putF_lt0 (putF_lt (by decide)), ?_⟩
      walk_at "rd"
      refine ⟨p, C, dx, _, rfl, upd_same, T.cl, T.n_flip, putF_lt0 (putF_lt (putF_lt (by decide))), ?_⟩
      exact fin sh (by unfold KBL.shiftN; rw [if_neg h'])

theorem ok_bcall {f C aW cR : Addr} {fd : FuncData} (F : Fun K "__call__" "Blend.__call__" s_Blend___call__ f fd) (T : TxtB K mg C aW) (c_need_word : KB.Callee P w K mg base (L2.CX P w) 5 "need_word" ["width", "value"] (spNeed cR)) (c_shifted : KB.Callee P w K mg base CX0 2 "shifted" ["value", "width", "shift"] spSh) : FnOk P w K mg base (L2.CX P w) 6 f fd ["self", "value"] (spBCall C cR) := by
  refine F.okX sc_Blend___call__ (fun vs H Q E h => ?_) (fun cdv A outer s H vs Q E hr h => ?_)
  · obtain ⟨p, w, s, k, f, v, t, rfl, _⟩ := h
    rfl
  · obtain ⟨p, w, s, k, f, v, t, rfl, ⟨nm, dx, h1⟩, od, q, x⟩ := h
    refine ⟨_, (pss_cons (ps_expr (pe_callC c_need_word (hr.mono (by decide)) (by rfl) (passes_call KL.def_takes fun _ _ _ _ h => h) (pa_cons (pe_fld (pv 0) rfl) (pa_cons (pv 1) pa_nil))))
 (pss_one (ps_ret (pe_op op_xor (pe_fld (pv 0) rfl) (pe_op op_and (pe_fld (pv 0) rfl) (pe_callC c_shifted (hr.mono (by decide)) (by rfl) pass0 (pa_cons (pv 1) (pa_cons (pe_fld (pv 0) rfl) (pa_cons (pe_fld (pv 0) rfl) pa_nil))))))))), at_start (σ := [some (.ref p), some v]) rfl ?_⟩
    try dsimp only [KC.cx_KX]
    have cl := T.cl; have nw := T.n_width; have ns := T.n_shift; have nk := T.n_keep; have nf := T.n_flip
    walk_at "rd"
    refine ⟨w, v, t, rfl, nm.w3, od, fun y => ?_, fun y d H' sm hd => x y d H' sm hd⟩
    obtain ⟨n, hn, rfl⟩ := isWord_of y
    obtain rfl : v = .int n := od
    walk_at "rd"
    refine ⟨w, n, s, rfl, nm.w3, hn, nm.lo, nm.hi, ?_⟩
    walk_at "rd"
    rw [KBL.bAnd, KBL.bXor]
    exact q n hn rfl

theorem ok_brepr {f C aW : Addr} {fd : FuncData} {k : Nat} (F : Fun K "__repr__" "Blend.__repr__" s_Blend___repr__ f fd) (T : TxtB K mg C aW) : FnOk P w K mg base CX0 (k + 1) f fd ["self"] (spBRepr C) := by
  refine F.ok sc_Blend___repr__ (fun vs H Q E h => ?_) (fun cdv A outer s H vs Q E hr h => ?_)
  · obtain ⟨p, w, s, k, f, rfl, _⟩ := h
    rfl
  · obtain ⟨p, w, s, k, f, rfl, ⟨nm, dx, h1⟩, q⟩ := h
    have sl : 1000 ≤ sizeLine := by decide
    have wp := nm.w3.pow
    have wl := nm.w3.le
    obtain ⟨b1, b2, b3, b4⟩ := numBits nm
    refine ⟨_, (pss_one (ps_ret (pe_joined (.cons pe_str (.cons (pe_fmt (pe_fld (pv 0) rfl)) (.cons pe_str (.cons (pe_fmt (pe_fld (pv 0) rfl)) (.cons pe_str (.cons (pe_fmt (pe_fld (pv 0) rfl)) (.cons pe_str (.cons (pe_fmt (pe_fld (pv 0) rfl)) (.cons pe_str .nil)))))))))))), at_start (σ := [some (.ref p)]) rfl ?_⟩
    dsimp only [cx_K]
    have cl := T.cl; have nw := T.n_width; have ns := T.n_shift; have nk := T.n_keep; have nf := T.n_flip
    walk_at "rd"
    have c0 : Str.empty.length = 0 := rfl
    have c1 : (Str.ofString "Blend(").length = 6 := by decide +kernel
    have c2 : (Str.ofString ", ").length = 2 := by decide +kernel
    have c3 : (Str.ofString ")").length = 1 := by decide +kernel
    have d1 := KBL.num_len b1
    have d2 := KBL.num_len b2
    have d3 := KBL.num_len b3
    have d4 := KBL.num_len b4
    have sl2 : 10000 ≤ sizeLine := by decide
    refine ⟨(by simp only [Str.length_append]; omega), ?_⟩
    walk_at "rd"
    refine Or.inr ⟨_, rfl, b1, ?_⟩
    refine ⟨_, rfl, (by simp only [Str.length_append]; omega), ?_⟩
    walk_at "rd"
    refine ⟨(by simp only [Str.length_append]; omega), ?_⟩
    walk_at "rd"
    refine Or.inr ⟨_, rfl, b2, ?_⟩
    refine ⟨_, rfl, (by simp only [Str.length_append]; omega), ?_⟩
    walk_at "rd"
    refine ⟨(by simp only [Str.length_append]; omega), ?_⟩
    walk_at "rd"
    refine Or.inr ⟨_, rfl, b3, ?_⟩
    refine ⟨_, rfl, (by simp only [Str.length_append]; omega), ?_⟩
    walk_at "rd"
    refine ⟨(by simp only [Str.length_append]; omega), ?_⟩
    walk_at "rd"
    refine Or.inr ⟨_, rfl, b4, ?_⟩
    refine ⟨_, rfl, (by simp only [Str.length_append]; omega), ?_⟩
    walk_at "rd"
    refine ⟨(by simp only [Str.length_append]; omega), ?_⟩
    walk_at "rd"
    exact q

end
end K04


namespace K04
open PySem L2 KB KO KY KV KW
/-! ### operations on blends -/
def isStep (w : Nat) : Dt → Bool
  | .sc (.int i) => decide (0 ≤ i ∧ i ≤ w)
  | _ => false
theorem isStep_of {w : Nat} {t : Dt} (h : isStep w t = true) : ∃ n : Nat, n ≤ w ∧ t = .sc (.int n) := by
  cases t with
  | sc s => cases s with
    | int i =>
      have h' : 0 ≤ i ∧ i ≤ (w : Int) := of_decide_eq_true h
      exact ⟨i.toNat, by omega, by rw [show ((i.toNat : Nat) : Int) = i by omega]⟩
    | non => cases h
    | bl => cases h
    | str => cases h
  | tup => cases h
  | lst => cases h
  | dct => cases h
theorem noInt_noStep {t : Dt} (h : isIntD t = false) (w : Nat) : isStep w t = false := by
  cases t with
  | sc s => cases s with
    | int i => cases h
    | non => rfl
    | bl => rfl
    | str => rfl
  | tup => rfl
  | lst => rfl
  | dct => rfl
theorem isStep_nat {w n : Nat} (h : n ≤ w) : isStep w (.sc (.int n)) = true := decide_eq_true ⟨by omega, by omega⟩
def spStepN (cS : Addr) : Sp := fun vs H Q E => ∃ (w : Nat) (v : V) (t : Dt), vs = [.int w, v] ∧ OdAt H v t ∧ (isStep w t = true → Q .non H) ∧ (isStep w t = false → ∀ d H', Same H H' → H' d = some (.xd [("value", v)]) → E (.ref cS) (some d) H')
/-- the shift behind a move -/
def movS (w : Nat) (s s' : Int) (k : Nat) : Int := if KBL.shN w k s' = 0 then 0 else s + s'
/-- the move is within the width -/
def MovOk (w : Nat) (s s' : Int) (k : Nat) : Prop := 0 - (w : Int) ≤ s' ∧ s' ≤ w ∧ (KBL.shN w k s' ≠ 0 → 0 - (w : Int) ≤ s + s' ∧ s + s' ≤ w)
def MadeAt (C : Addr) (H : Hp) (p : Addr) (w : Nat) (s : Int) (m f : Nat) : Prop := BlendAt C H p w (KBL.shiftN w s m) (KBL.keepN w s m) f
def spMoved (C : Addr) : Sp := fun vs H Q _ => ∃ (p : Addr) (w : Nat) (s s' : Int) (k f : Nat), vs = [.ref p, .int s'] ∧ BlendAt C H p w s k f ∧ MovOk w s s' k ∧ ∀ H' x, MadeAt C H' x w (movS w s s' k) (KBL.shN w k s') (KBL.shN w f s') → Same H H' → Q (.ref x) H'
def spShl (C cS : Addr) : Sp := fun vs H Q E => ∃ (p : Addr) (w : Nat) (s : Int) (k f : Nat) (v : V) (t : Dt), vs = [.ref p, v] ∧ BlendAt C H p w s k f ∧ OdAt H v t ∧
  (∀ n : Nat, n ≤ w → t = .sc (.int n) → MovOk w s n k ∧ ∀ H' x, MadeAt C H' x w (movS w s n k) (KBL.shN w k n) (KBL.shN w f n) → Same H H' → Q (.ref x) H') ∧ (isStep w t = false → ∀ d H', Same H H' → H' d = some (.xd [("value", v)]) → E (.ref cS) (some d) H')
def spShr (C cS : Addr) : Sp := fun vs H Q E => ∃ (p : Addr) (w : Nat) (s : Int) (k f : Nat) (v : V) (t : Dt), vs = [.ref p, v] ∧ BlendAt C H p w s k f ∧ OdAt H v t ∧
  (∀ n : Nat, n ≤ w → t = .sc (.int n) → MovOk w s (0 - n) k ∧ ∀ H' x, MadeAt C H' x w (movS w s (0 - n) k) (KBL.shN w k (0 - n)) (KBL.shN w f (0 - n)) → Same H H' → Q (.ref x) H') ∧ (isStep w t = false → ∀ d H', Same H H' → H' d = some (.xd [("value", v)]) → E (.ref cS) (some d) H')
def spAndB (C cR : Addr) : Sp := fun vs H Q E => ∃ (p : Addr) (w : Nat) (s : Int) (k f : Nat) (v : V) (t : Dt), vs = [.ref p, v] ∧ BlendAt C H p w s k f ∧ OdAt H v t ∧
  (∀ n : Nat, n < 2 ^ w → t = .sc (.int n) → ∀ H' x, MadeAt C H' x w s (k &&& n) (f &&& n) → Same H H' → Q (.ref x) H') ∧ (isWord w t = false → ∀ d H', Same H H' → H' d = some (.xd [("value", v)]) → E (.ref cR) (some d) H')
theorem make_b {C cW cS cR : Addr} {H : Hp} {w : Nat} {s : Int} {m f : Nat} {Q : Hp → Prop} {E : XK} {x dx : Addr} (nx : H x = none) (ndx : H dx = none) (nm : Nm w s m f) (q : ∀ H', BlendAt C H' x w (KBL.shiftN w s m) (KBL.keepN w s m) f → Same H H' → Q H') :
    spBlend C cW cS cR [.ref x, .int w, .int s, .int m, .int f] (upd (upd H dx (.own x)) x (.ins C dx [])) (fun v H3 => v = .non ∧ Q H3) E := by
  have sh : isShift w (.sc (.int s)) = true := decide_eq_true ⟨nm.lo, nm.hi⟩
  refine ⟨x, dx, _, _, _, _, .sc (.int w), .sc (.int s), .sc (.int m), .sc (.int f), rfl, upd_same, rfl, rfl, rfl, rfl, fun z => ?_, fun w' e w3 z => ?_, fun w' e w3 _ _ z => ?_, fun w' e w3 _ _ z => ?_, fun w' s' f' e1 e2 e4 _ nm' H' B kp => ⟨rfl, ?_⟩⟩
  · rw [isW_nat nm.w3] at z; cases z
  · cases e; rw [sh] at z; cases z
  · obtain rfl : w = w' := by cases e; rfl
    rw [isWord_nat nm.kl] at z; cases z
  · obtain rfl : w = w' := by cases e; rfl
    rw [isWord_nat nm.fl] at z; cases z
  · obtain rfl : w = w' := by cases e1; rfl
    obtain rfl : s = s' := by cases e2; rfl
    obtain rfl : f = f' := by cases e4; rfl
    exact q H' B fun b o e => kp b o (by rw [upd_ne (ne_of_none e nx), upd_ne (ne_of_none e ndx)]; exact e) (ne_of_none e nx)
theorem make_d {C cW cS cR : Addr} {H : Hp} {w : Nat} {Q : Hp → Prop} {E : XK} {x dx : Addr} (nx : H x = none) (ndx : H dx = none) (w3 : W3 w) (q : ∀ H', BlendAt C H' x w (KBL.shiftN w 0 (KBL.onesN w)) (KBL.keepN w 0 (KBL.onesN w)) 0 → Same H H' → Q H') :
    spBlend C cW cS cR [.ref x, .int w, .int 0, .non, .int 0] (upd (upd H dx (.own x)) x (.ins C dx [])) (fun v H3 => v = .non ∧ Q H3) E := by
  have wl := w3.le
  have sh : isShift w (.sc (.int 0)) = true := decide_eq_true ⟨by omega, by omega⟩
  refine ⟨x, dx, _, _, _, _, .sc (.int w), .sc (.int 0), .sc .non, .sc (.int 0), rfl, upd_same, rfl, rfl, rfl, rfl, fun z => ?_, fun w' e w3 z => ?_, fun w' e w3 _ z => ?_, fun w' e w3 _ _ z => ?_, fun w' s' f' e1 e2 e4 _ nm' H' B kp => ⟨rfl, ?_⟩⟩
  · rw [isW_nat w3] at z; cases z
  · cases e; rw [sh] at z; cases z
  · cases z
  · rw [show (Dt.sc (.int 0)) = .sc (.int ((0 : Nat) : Int)) from rfl, isWord_nat (Nat.two_pow_pos w')] at z; cases z
  · obtain rfl : w = w' := by cases e1; rfl
    obtain rfl : s' = 0 := by cases e2; rfl
    obtain rfl : f' = 0 := by cases e4; rfl
    exact q H' B fun b o e => kp b o (by rw [upd_ne (ne_of_none e nx), upd_ne (ne_of_none e ndx)]; exact e) (ne_of_none e nx)


section
variable {P : Program} {w : World} {K : PySem.W.Frag} {mg : Str → Option Value} {base : Heap}
theorem ok_step {f cS : Addr} {fd : FuncData} (F : Fun K "need_step" "need_step" s_need_step f fd) (e_InvalidShift : KX.ErrMk P w K mg base cS "InvalidShift" "value") (c_is_integer : KB.Callee P w K mg base CX0 1 "is_integer" ["value"] spInt) : FnOk P w K mg base (L2.CX P w) 3 f fd ["width", "step"] (spStepN cS) := by
  refine F.okX sc_need_step (fun vs H Q E h => ?_) (fun cdv A outer s H vs Q E hr h => ?_)
  · obtain ⟨w, v, t, rfl, _⟩ := h
    rfl
  · obtain ⟨w, v, t, rfl, od, q, x⟩ := h
    refine ⟨_, (pss_one (ps_if (PW.pt (pw_or (pt_not (pt_val (pe_callC c_is_integer (hr.mono (by decide)) (by rfl) pass0 (pa_cons (pv 1) pa_nil)))) (pw_or1 (pt_not (pt_chain op_le op_le pe_int (pv 1) (pv 0)))))) (pss_one (ps_raise rfl KL.def_takes (KX.pmkC e_InvalidShift (hr.mono (by decide)) (by rfl) (pa_cons (pv 1) pa_nil))))
 pss_nil)), at_start (σ := [some (.int w), some v]) rfl ?_⟩
    try dsimp only [KC.cx_KX]
    walk_at "rd"
    refine ⟨v, t, rfl, od, ?_⟩
    walk_at "rd"
    refine r_iteBN (fun z => ?_) (fun z => ?_)
    · walk_at "rd"
      refine KX.r_raiseO ?_ KX.mono_var
      walk_at "rd"
      exact fun d H' sm hd => x (noInt_noStep z w) d H' sm hd
    obtain ⟨i, rfl⟩ := isIntD_of z
    obtain rfl : v = .int i := od
    have bad : ¬ (0 ≤ i ∧ i ≤ (w : Int)) → ∀ (d : Addr) (H' : Hp), Same H H' → H' d = some (.xd [("value", .int i)]) → E (.ref cS) (some d) H' := fun y => x (decide_eq_false y)
    walk_at "rd"
    refine KC.r_chain ?_
    walk_at "rd"
    refine r_ite2 (fun lo => ?_) (fun lo => ?_)
    rotate_left
    · walk_at "rd"
      refine KX.r_raiseO ?_ KX.mono_var
      walk_at "rd"
      exact bad fun y => lo y.1
    walk_at "rd"
    refine r_iteN2 (fun hi => ?_) (fun hi => ?_)
    · walk_at "rd"
      refine KX.r_raiseO ?_ KX.mono_var
      walk_at "rd"
      exact bad fun y => hi y.2
    walk_at "rd"
    exact q (decide_eq_true ⟨lo, hi⟩)
theorem ok_moved {f C aW cW cS cR : Addr} {fd : FuncData} (F : Fun K "moved" "moved" s_moved f fd) (T : TxtB K mg C aW) (c_shifted : KB.Callee P w K mg base CX0 2 "shifted" ["value", "width", "shift"] spSh) (c_Blend___init__ : CalleeI P w K mg base (L2.CX P w) 6 C "Blend" ["self", "width", "shift", "keep", "flip"] (spBlend C cW cS cR)) : FnOk P w K mg base CX0 8 f fd ["blend", "step"] (spMoved C) := by
  refine F.ok sc_moved (fun vs H Q E h => ?_) (fun cdv A outer s H vs Q E hr h => ?_)
  · obtain ⟨p, w, s, s', k, f, rfl, _⟩ := h
    rfl
  · obtain ⟨p, w, s, s', k, f, rfl, ⟨nm, dx, h1⟩, ⟨m1, m2, m3⟩, q⟩ := h
    refine ⟨_, (pss_cons (ps_set (i := 2) sc_moved.nd rfl (by first | exact Or.inl rfl | exact Or.inr rfl) (pe_callC c_shifted (hr.mono (by decide)) (by rfl) pass0 (pa_cons (pe_fld (pv 0) rfl) (pa_cons (pe_fld (pv 0) rfl) (pa_cons (pv 1) pa_nil)))))
 (pss_cons (ps_set (i := 3) sc_moved.nd rfl (by first | exact Or.inl rfl | exact Or.inr rfl) (pe_callC c_shifted (hr.mono (by decide)) (by rfl) pass0 (pa_cons (pe_fld (pv 0) rfl) (pa_cons (pe_fld (pv 0) rfl) (pa_cons (pv 1) pa_nil)))))
 (pss_one (ps_ret (pe_makeC c_Blend___init__ (hr.mono (by decide)) (by rfl) passL (pa_cons (pe_fld (pv 0) rfl) (pa_cons (pe_ifExp (pt_cmpR op_ne (pv 2) pe_int (nomark _)) (pe_op op_add (pe_fld (pv 0) rfl) (pv 1)) pe_int) (pa_cons (pv 2) (pa_cons (pv 3) pa_nil))))))))), at_start (σ := [some (.ref p), some (.int s'), none, none]) rfl ?_⟩
    try dsimp only [cx_K]
    have cl := T.cl; have nw := T.n_width; have ns := T.n_shift; have nk := T.n_keep; have nf := T.n_flip
    have k1 := KBL.sh_lt (s := s') nm.kl
    have f1 := KBL.sh_lt (s := s') nm.fl
    walk_at "rd"
    refine ⟨w, k, s', rfl, nm.w3, nm.kl, m1, m2, ?_⟩
    walk_at "rd"
    refine ⟨w, f, s', rfl, nm.w3, nm.fl, m1, m2, ?_⟩
    walk_at "rd"
    unfold movS at q
    refine r_iteN2 (fun h => ?_) (fun h => ?_)
    · have h' : ¬ KBL.shN w k s' = 0 := fun z => h (by rw [z]; rfl)
      rw [if_neg h'] at q
      walk_at "rd"
      refine fun x dx nx ndx nxd => make_b nx ndx ⟨nm.w3, (m3 h').1, (m3 h').2, k1, f1⟩ fun H' B sm => ?_
      exact q H' x B sm
    · have h' : KBL.shN w k s' = 0 := by have := V.int.inj h; omega
      rw [if_pos h'] at q
      walk_at "rd"
      refine fun x dx nx ndx nxd => make_b nx ndx ⟨nm.w3, by omega, by omega, k1, f1⟩ fun H' B sm => ?_
      exact q H' x B sm
theorem ok_shl {f C aW cS : Addr} {fd : FuncData} (F : Fun K "__lshift__" "Blend.__lshift__" s_Blend___lshift__ f fd) (T : TxtB K mg C aW) (c_need_step : KB.Callee P w K mg base (L2.CX P w) 3 "need_step" ["width", "step"] (spStepN cS)) (c_moved : KB.Callee P w K mg base CX0 8 "moved" ["blend", "step"] (spMoved C)) : FnOk P w K mg base (L2.CX P w) 9 f fd ["self", "other"] (spShl C cS) := by
  refine F.okX sc_Blend___lshift__ (fun vs H Q E h => ?_) (fun cdv A outer s H vs Q E hr h => ?_)
  · obtain ⟨p, w, s, k, f, v, t, rfl, _⟩ := h
    rfl
  · obtain ⟨p, w, s, k, f, v, t, rfl, B, od, q, x⟩ := h
    obtain ⟨nm, dx, h1⟩ := id B
    refine ⟨_, (pss_cons (ps_expr (pe_callC c_need_step (hr.mono (by decide)) (by rfl) (passes_call KL.def_takes fun _ _ _ _ h => h) (pa_cons (pe_fld (pv 0) rfl) (pa_cons (pv 1) pa_nil))))
 (pss_one (ps_ret (pe_callC c_moved (hr.mono (by decide)) (by rfl) pass0 (pa_cons (pv 0) (pa_cons (pv 1) pa_nil)))))), at_start (σ := [some (.ref p), some v]) rfl ?_⟩
    try dsimp only [KC.cx_KX]
    have cl := T.cl; have nw := T.n_width
    walk_at "rd"
    refine ⟨w, v, t, rfl, od, fun y => ?_, fun y d H' sm hd => x y d H' sm hd⟩
    obtain ⟨n, hn, rfl⟩ := isStep_of y
    obtain rfl : v = .int n := od
    obtain ⟨q1, q2⟩ := q n hn rfl
    walk_at "rd"
    exact ⟨p, w, s, n, k, f, rfl, B, q1, q2⟩
theorem ok_shr {f C aW cS : Addr} {fd : FuncData} (F : Fun K "__rshift__" "Blend.__rshift__" s_Blend___rshift__ f fd) (T : TxtB K mg C aW) (c_need_step : KB.Callee P w K mg base (L2.CX P w) 3 "need_step" ["width", "step"] (spStepN cS)) (c_moved : KB.Callee P w K mg base CX0 8 "moved" ["blend", "step"] (spMoved C)) : FnOk P w K mg base (L2.CX P w) 9 f fd ["self", "other"] (spShr C cS) := by
  refine F.okX sc_Blend___rshift__ (fun vs H Q E h => ?_) (fun cdv A outer s H vs Q E hr h => ?_)
  · obtain ⟨p, w, s, k, f, v, t, rfl, _⟩ := h
    rfl
  · obtain ⟨p, w, s, k, f, v, t, rfl, B, od, q, x⟩ := h
    obtain ⟨nm, dx, h1⟩ := id B
    refine ⟨_, (pss_cons (ps_expr (pe_callC c_need_step (hr.mono (by decide)) (by rfl) (passes_call KL.def_takes fun _ _ _ _ h => h) (pa_cons (pe_fld (pv 0) rfl) (pa_cons (pv 1) pa_nil))))
 (pss_one (ps_ret (pe_callC c_moved (hr.mono (by decide)) (by rfl) pass0 (pa_cons (pv 0) (pa_cons (pe_op op_sub pe_int (pv 1)) pa_nil)))))), at_start (σ := [some (.ref p), some v]) rfl ?_⟩
    try dsimp only [KC.cx_KX]
    have cl := T.cl; have nw := T.n_width
    walk_at "rd"
    refine ⟨w, v, t, rfl, od, fun y => ?_, fun y d H' sm hd => x y d H' sm hd⟩
    obtain ⟨n, hn, rfl⟩ := isStep_of y
    obtain rfl : v = .int n := od
    obtain ⟨q1, q2⟩ := q n hn rfl
    walk_at "rd"
    exact ⟨p, w, s, 0 - (n : Int), k, f, rfl, B, q1, q2⟩
theorem ok_andB {f C aW cW cS cR : Addr} {fd : FuncData} (F : Fun K "__and__" "Blend.__and__" s_Blend___and__ f fd) (T : TxtB K mg C aW) (c_need_word : KB.Callee P w K mg base (L2.CX P w) 5 "need_word" ["width", "value"] (spNeed cR)) (c_Blend___init__ : CalleeI P w K mg base (L2.CX P w) 6 C "Blend" ["self", "width", "shift", "keep", "flip"] (spBlend C cW cS cR)) : FnOk P w K mg base (L2.CX P w) 8 f fd ["self", "other"] (spAndB C cR) := by
  refine F.okX sc_Blend___and__ (fun vs H Q E h => ?_) (fun cdv A outer s H vs Q E hr h => ?_)
  · obtain ⟨p, w, s, k, f, v, t, rfl, _⟩ := h
    rfl
  · obtain ⟨p, w, s, k, f, v, t, rfl, B, od, q, x⟩ := h
    obtain ⟨nm, dx, h1⟩ := id B
    refine ⟨_, (pss_cons (ps_expr (pe_callC c_need_word (hr.mono (by decide)) (by rfl) (passes_call KL.def_takes fun _ _ _ _ h => h) (pa_cons (pe_fld (pv 0) rfl) (pa_cons (pv 1) pa_nil))))
 (pss_one (ps_ret (pe_makeC c_Blend___init__ (hr.mono (by decide)) (by rfl) (passes_call KL.def_takes fun _ _ _ _ h => h) (pa_cons (pe_fld (pv 0) rfl) (pa_cons (pe_fld (pv 0) rfl) (pa_cons (pe_op op_and (pe_fld (pv 0) rfl) (pv 1)) (pa_cons (pe_op op_and (pe_fld (pv 0) rfl) (pv 1)) pa_nil)))))))), at_start (σ := [some (.ref p), some v]) rfl ?_⟩
    try dsimp only [KC.cx_KX]
    have cl := T.cl; have nw := T.n_width; have ns := T.n_shift; have nk := T.n_keep; have nf := T.n_flip
    walk_at "rd"
    refine ⟨w, v, t, rfl, nm.w3, od, fun y => ?_, fun y d H' sm hd => x y d H' sm hd⟩
    obtain ⟨n, hn, rfl⟩ := isWord_of y
    obtain rfl : v = .int n := od
    walk_at "rd"
    rw [KBL.bAnd, KBL.bAnd]
    refine fun x dx nx ndx nxd => make_b nx ndx ⟨nm.w3, nm.lo, nm.hi, Nat.and_lt_two_pow _ hn, Nat.and_lt_two_pow _ hn⟩ fun H' B' sm => ?_
    exact q n hn rfl H' x B' sm

end
end K04


namespace K04
open PySem L2 KB KO KY KV KW
/-! ### &, |, ^ on either side; a constant blend -/
def kAnd (_ k n : Nat) : Nat := k &&& n
def fAnd (_ f n : Nat) : Nat := f &&& n
def kOr (w k n : Nat) : Nat := k &&& (KBL.onesN w ^^^ n)
def fOr (_ f n : Nat) : Nat := f ||| n
def kXor (_ k _ : Nat) : Nat := k
def fXor (_ f n : Nat) : Nat := f ^^^ n
def spBin (C cR : Addr) (gk gf : Nat → Nat → Nat → Nat) : Sp := fun vs H Q E => ∃ (p : Addr) (w : Nat) (s : Int) (k f : Nat) (v : V) (t : Dt), vs = [.ref p, v] ∧ BlendAt C H p w s k f ∧ OdAt H v t ∧
  (∀ n : Nat, n < 2 ^ w → t = .sc (.int n) → ∀ H' x, MadeAt C H' x w s (gk w k n) (gf w f n) → Same H H' → Q (.ref x) H') ∧ (isWord w t = false → ∀ d H', Same H H' → H' d = some (.xd [("value", v)]) → E (.ref cR) (some d) H')
def spConst (C cW cR : Addr) : Sp := fun vs H Q E => ∃ (v1 v2 : V) (t1 t2 : Dt), vs = [.ref C, v1, v2] ∧ OdAt H v1 t1 ∧ OdAt H v2 t2 ∧ (isW t1 = false → ∀ d H', Same H H' → H' d = some (.xd [("value", v1)]) → E (.ref cW) (some d) H') ∧
  (∀ w : Nat, t1 = .sc (.int w) → W3 w → isWord w t2 = false → ∀ d H', Same H H' → H' d = some (.xd [("value", v2)]) → E (.ref cR) (some d) H') ∧
  (∀ w n : Nat, t1 = .sc (.int w) → t2 = .sc (.int n) → W3 w → n < 2 ^ w → ∀ H' x, MadeAt C H' x w 0 0 n → Same H H' → Q (.ref x) H')
theorem or_and_add (a : Nat) : ∀ b : Nat, (a ||| b) + (a &&& b) = a + b := by
  induction a using Nat.strongRecOn with
  | _ a ih =>
    intro b
    by_cases h : a = 0
    · subst h; simp
    · have e := ih (a / 2) (by omega) (b / 2)
      have x1 := Nat.or_mod_two_pow (a := a) (b := b) (n := 1)
      have x2 := Nat.and_mod_two_pow (a := a) (b := b) (n := 1)
      have x3 := Nat.or_div_two_pow (a := a) (b := b) (n := 1)
      have x4 := Nat.and_div_two_pow (a := a) (b := b) (n := 1)
      simp only [Nat.pow_one] at x1 x2 x3 x4
      have da := Nat.div_add_mod a 2
      have db := Nat.div_add_mod b 2
      have dx := Nat.div_add_mod (a ||| b) 2
      have dy := Nat.div_add_mod (a &&& b) 2
      rw [x1, x3] at dx
      rw [x2, x4] at dy
      rcases Nat.mod_two_eq_zero_or_one a with ha | ha <;> rcases Nat.mod_two_eq_zero_or_one b with hb | hb <;> rw [ha, hb] at dx dy <;> rw [ha] at da <;> rw [hb] at db <;> simp at dx dy <;> omega
theorem bOrN (a b : Nat) : Builtin.bitOr (a : Int) (b : Int) = ((a ||| b : Nat) : Int) := by
  rw [PyProof.Rows.bitOr_and, KBL.bAnd]
  have := or_and_add a b
  omega


section
variable {P : Program} {w : World} {K : PySem.W.Frag} {mg : Str → Option Value} {base : Heap}
theorem ok_or {f C aW cW cS cR : Addr} {fd : FuncData} (F : Fun K "__or__" "Blend.__or__" s_Blend___or__ f fd) (T : TxtB K mg C aW) (c_need_word : KB.Callee P w K mg base (L2.CX P w) 5 "need_word" ["width", "value"] (spNeed cR)) (c_ones : KB.Callee P w K mg base CX0 1 "ones" ["width"] spOnes) (c_Blend___init__ : CalleeI P w K mg base (L2.CX P w) 6 C "Blend" ["self", "width", "shift", "keep", "flip"] (spBlend C cW cS cR)) : FnOk P w K mg base (L2.CX P w) 8 f fd ["self", "other"] (spBin C cR kOr fOr) := by
  refine F.okX sc_Blend___or__ (fun vs H Q E h => ?_) (fun cdv A outer s H vs Q E hr h => ?_)
  · obtain ⟨p, w, s, k, f, v, t, rfl, _⟩ := h
    rfl
  · obtain ⟨p, w, s, k, f, v, t, rfl, B, od, q, x⟩ := h
    obtain ⟨nm, dx, h1⟩ := id B
    refine ⟨_, (pss_cons (ps_expr (pe_callC c_need_word (hr.mono (by decide)) (by rfl) (passes_call KL.def_takes fun _ _ _ _ h => h) (pa_cons (pe_fld (pv 0) rfl) (pa_cons (pv 1) pa_nil))))
 (pss_one (ps_ret (pe_makeC c_Blend___init__ (hr.mono (by decide)) (by rfl) (passes_call KL.def_takes fun _ _ _ _ h => h) (pa_cons (pe_fld (pv 0) rfl) (pa_cons (pe_fld (pv 0) rfl) (pa_cons (pe_op op_and (pe_fld (pv 0) rfl) (pe_op op_xor (pe_callC c_ones (hr.mono (by decide)) (by rfl) pass0 (pa_cons (pe_fld (pv 0) rfl) pa_nil)) (pv 1))) (pa_cons (pe_op op_or (pe_fld (pv 0) rfl) (pv 1)) pa_nil)))))))), at_start (σ := [some (.ref p), some v]) rfl ?_⟩
    try dsimp only [KC.cx_KX]
    have cl := T.cl; have nw := T.n_width; have ns := T.n_shift; have nk := T.n_keep; have nf := T.n_flip
    have wl := nm.w3.le
    walk_at "rd"
    refine ⟨w, v, t, rfl, nm.w3, od, fun y => ?_, fun y d H' sm hd => x y d H' sm hd⟩
    obtain ⟨n, hn, rfl⟩ := isWord_of y
    obtain rfl : v = .int n := od
    walk_at "rd"
    refine ⟨w, rfl, wl.2, ?_⟩
    walk_at "rd"
    rw [KBL.bXor, KBL.bAnd, bOrN]
    refine fun x dx nx ndx nxd => make_b nx ndx ⟨nm.w3, nm.lo, nm.hi, Nat.and_lt_two_pow _ (Nat.xor_lt_two_pow (KBL.ones_lt w) hn), Nat.or_lt_two_pow nm.fl hn⟩ fun H' B' sm => ?_
    exact q n hn rfl H' x B' sm
theorem ok_xor {f C aW cW cS cR : Addr} {fd : FuncData} (F : Fun K "__xor__" "Blend.__xor__" s_Blend___xor__ f fd) (T : TxtB K mg C aW) (c_need_word : KB.Callee P w K mg base (L2.CX P w) 5 "need_word" ["width", "value"] (spNeed cR)) (c_Blend___init__ : CalleeI P w K mg base (L2.CX P w) 6 C "Blend" ["self", "width", "shift", "keep", "flip"] (spBlend C cW cS cR)) : FnOk P w K mg base (L2.CX P w) 8 f fd ["self", "other"] (spBin C cR kXor fXor) := by
  refine F.okX sc_Blend___xor__ (fun vs H Q E h => ?_) (fun cdv A outer s H vs Q E hr h => ?_)
  · obtain ⟨p, w, s, k, f, v, t, rfl, _⟩ := h
    rfl
  · obtain ⟨p, w, s, k, f, v, t, rfl, B, od, q, x⟩ := h
    obtain ⟨nm, dx, h1⟩ := id B
    refine ⟨_, (pss_cons (ps_expr (pe_callC c_need_word (hr.mono (by decide)) (by rfl) (passes_call KL.def_takes fun _ _ _ _ h => h) (pa_cons (pe_fld (pv 0) rfl) (pa_cons (pv 1) pa_nil))))
 (pss_one (ps_ret (pe_makeC c_Blend___init__ (hr.mono (by decide)) (by rfl) (passes_call KL.def_takes fun _ _ _ _ h => h) (pa_cons (pe_fld (pv 0) rfl) (pa_cons (pe_fld (pv 0) rfl) (pa_cons (pe_fld (pv 0) rfl) (pa_cons (pe_op op_xor (pe_fld (pv 0) rfl) (pv 1)) pa_nil)))))))), at_start (σ := [some (.ref p), some v]) rfl ?_⟩
    try dsimp only [KC.cx_KX]
    have cl := T.cl; have nw := T.n_width; have ns := T.n_shift; have nk := T.n_keep; have nf := T.n_flip
    have wl := nm.w3.le
    walk_at "rd"
    refine ⟨w, v, t, rfl, nm.w3, od, fun y => ?_, fun y d H' sm hd => x y d H' sm hd⟩
    obtain ⟨n, hn, rfl⟩ := isWord_of y
    obtain rfl : v = .int n := od
    walk_at "rd"
    rw [KBL.bXor]
    refine fun x dx nx ndx nxd => make_b nx ndx ⟨nm.w3, nm.lo, nm.hi, nm.kl, Nat.xor_lt_two_pow nm.fl hn⟩ fun H' B' sm => ?_
    exact q n hn rfl H' x B' sm
theorem ok_rand {f C aW cW cS cR : Addr} {fd : FuncData} (F : Fun K "__rand__" "Blend.__rand__" s_Blend___rand__ f fd) (T : TxtB K mg C aW) (c_need_word : KB.Callee P w K mg base (L2.CX P w) 5 "need_word" ["width", "value"] (spNeed cR)) (c_Blend___init__ : CalleeI P w K mg base (L2.CX P w) 6 C "Blend" ["self", "width", "shift", "keep", "flip"] (spBlend C cW cS cR)) : FnOk P w K mg base (L2.CX P w) 8 f fd ["self", "other"] (spBin C cR kAnd fAnd) := by
  refine F.okX sc_Blend___rand__ (fun vs H Q E h => ?_) (fun cdv A outer s H vs Q E hr h => ?_)
  · obtain ⟨p, w, s, k, f, v, t, rfl, _⟩ := h
    rfl
  · obtain ⟨p, w, s, k, f, v, t, rfl, B, od, q, x⟩ := h
    obtain ⟨nm, dx, h1⟩ := id B
    refine ⟨_, (pss_cons (ps_expr (pe_callC c_need_word (hr.mono (by decide)) (by rfl) (passes_call KL.def_takes fun _ _ _ _ h => h) (pa_cons (pe_fld (pv 0) rfl) (pa_cons (pv 1) pa_nil))))
 (pss_one (ps_ret (pe_makeC c_Blend___init__ (hr.mono (by decide)) (by rfl) (passes_call KL.def_takes fun _ _ _ _ h => h) (pa_cons (pe_fld (pv 0) rfl) (pa_cons (pe_fld (pv 0) rfl) (pa_cons (pe_op op_and (pe_fld (pv 0) rfl) (pv 1)) (pa_cons (pe_op op_and (pe_fld (pv 0) rfl) (pv 1)) pa_nil)))))))), at_start (σ := [some (.ref p), some v]) rfl ?_⟩
    try dsimp only [KC.cx_KX]
    have cl := T.cl; have nw := T.n_width; have ns := T.n_shift; have nk := T.n_keep; have nf := T.n_flip
    have wl := nm.w3.le
    walk_at "rd"
    refine ⟨w, v, t, rfl, nm.w3, od, fun y => ?_, fun y d H' sm hd => x y d H' sm hd⟩
    obtain ⟨n, hn, rfl⟩ := isWord_of y
    obtain rfl : v = .int n := od
    walk_at "rd"
    rw [KBL.bAnd, KBL.bAnd]
    refine fun x dx nx ndx nxd => make_b nx ndx ⟨nm.w3, nm.lo, nm.hi, Nat.and_lt_two_pow _ hn, Nat.and_lt_two_pow _ hn⟩ fun H' B' sm => ?_
    exact q n hn rfl H' x B' sm
theorem ok_ror {f C aW cW cS cR : Addr} {fd : FuncData} (F : Fun K "__ror__" "Blend.__ror__" s_Blend___ror__ f fd) (T : TxtB K mg C aW) (c_need_word : KB.Callee P w K mg base (L2.CX P w) 5 "need_word" ["width", "value"] (spNeed cR)) (c_ones : KB.Callee P w K mg base CX0 1 "ones" ["width"] spOnes) (c_Blend___init__ : CalleeI P w K mg base (L2.CX P w) 6 C "Blend" ["self", "width", "shift", "keep", "flip"] (spBlend C cW cS cR)) : FnOk P w K mg base (L2.CX P w) 8 f fd ["self", "other"] (spBin C cR kOr fOr) := by
  refine F.okX sc_Blend___ror__ (fun vs H Q E h => ?_) (fun cdv A outer s H vs Q E hr h => ?_)
  · obtain ⟨p, w, s, k, f, v, t, rfl, _⟩ := h
    rfl
  · obtain ⟨p, w, s, k, f, v, t, rfl, B, od, q, x⟩ := h
    obtain ⟨nm, dx, h1⟩ := id B
    refine ⟨_, (pss_cons (ps_expr (pe_callC c_need_word (hr.mono (by decide)) (by rfl) (passes_call KL.def_takes fun _ _ _ _ h => h) (pa_cons (pe_fld (pv 0) rfl) (pa_cons (pv 1) pa_nil))))
 (pss_one (ps_ret (pe_makeC c_Blend___init__ (hr.mono (by decide)) (by rfl) (passes_call KL.def_takes fun _ _ _ _ h => h) (pa_cons (pe_fld (pv 0) rfl) (pa_cons (pe_fld (pv 0) rfl) (pa_cons (pe_op op_and (pe_fld (pv 0) rfl) (pe_op op_xor (pe_callC c_ones (hr.mono (by decide)) (by rfl) pass0 (pa_cons (pe_fld (pv 0) rfl) pa_nil)) (pv 1))) (pa_cons (pe_op op_or (pe_fld (pv 0) rfl) (pv 1)) pa_nil)))))))), at_start (σ := [some (.ref p), some v]) rfl ?_⟩
    try dsimp only [KC.cx_KX]
    have cl := T.cl; have nw := T.n_width; have ns := T.n_shift; have nk := T.n_keep; have nf := T.n_flip
    have wl := nm.w3.le
    walk_at "rd"
    refine ⟨w, v, t, rfl, nm.w3, od, fun y => ?_, fun y d H' sm hd => x y d H' sm hd⟩
    obtain ⟨n, hn, rfl⟩ := isWord_of y
    obtain rfl : v = .int n := od
    walk_at "rd"
    refine ⟨w, rfl, wl.2, ?_⟩
    walk_at "rd"
    rw [KBL.bXor, KBL.bAnd, bOrN]
    refine fun x dx nx ndx nxd => make_b nx ndx ⟨nm.w3, nm.lo, nm.hi, Nat.and_lt_two_pow _ (Nat.xor_lt_two_pow (KBL.ones_lt w) hn), Nat.or_lt_two_pow nm.fl hn⟩ fun H' B' sm => ?_
    exact q n hn rfl H' x B' sm
theorem ok_rxor {f C aW cW cS cR : Addr} {fd : FuncData} (F : Fun K "__rxor__" "Blend.__rxor__" s_Blend___rxor__ f fd) (T : TxtB K mg C aW) (c_need_word : KB.Callee P w K mg base (L2.CX P w) 5 "need_word" ["width", "value"] (spNeed cR)) (c_Blend___init__ : CalleeI P w K mg base (L2.CX P w) 6 C "Blend" ["self", "width", "shift", "keep", "flip"] (spBlend C cW cS cR)) : FnOk P w K mg base (L2.CX P w) 8 f fd ["self", "other"] (spBin C cR kXor fXor) := by
  refine F.okX sc_Blend___rxor__ (fun vs H Q E h => ?_) (fun cdv A outer s H vs Q E hr h => ?_)
  · obtain ⟨p, w, s, k, f, v, t, rfl, _⟩ := h
    rfl
  · obtain ⟨p, w, s, k, f, v, t, rfl, B, od, q, x⟩ := h
    obtain ⟨nm, dx, h1⟩ := id B
    refine ⟨_, (pss_cons (ps_expr (pe_callC c_need_word (hr.mono (by decide)) (by rfl) (passes_call KL.def_takes fun _ _ _ _ h => h) (pa_cons (pe_fld (pv 0) rfl) (pa_cons (pv 1) pa_nil))))
 (pss_one (ps_ret (pe_makeC c_Blend___init__ (hr.mono (by decide)) (by rfl) (passes_call KL.def_takes fun _ _ _ _ h => h) (pa_cons (pe_fld (pv 0) rfl) (pa_cons (pe_fld (pv 0) rfl) (pa_cons (pe_fld (pv 0) rfl) (pa_cons (pe_op op_xor (pe_fld (pv 0) rfl) (pv 1)) pa_nil)))))))), at_start (σ := [some (.ref p), some v]) rfl ?_⟩
    try dsimp only [KC.cx_KX]
    have cl := T.cl; have nw := T.n_width; have ns := T.n_shift; have nk := T.n_keep; have nf := T.n_flip
    have wl := nm.w3.le
    walk_at "rd"
    refine ⟨w, v, t, rfl, nm.w3, od, fun y => ?_, fun y d H' sm hd => x y d H' sm hd⟩
    obtain ⟨n, hn, rfl⟩ := isWord_of y
    obtain rfl : v = .int n := od
    walk_at "rd"
    rw [KBL.bXor]
    refine fun x dx nx ndx nxd => make_b nx ndx ⟨nm.w3, nm.lo, nm.hi, nm.kl, Nat.xor_lt_two_pow nm.fl hn⟩ fun H' B' sm => ?_
    exact q n hn rfl H' x B' sm
theorem ok_const {f C aW cW cS cR : Addr} {fd : FuncData} (F : Fun K "constant" "Blend.constant" s_Blend_constant f fd) (T : TxtB K mg C aW) (c_need_width : KB.Callee P w K mg base (L2.CX P w) 3 "need_width" ["width"] (spNW cW)) (c_need_word : KB.Callee P w K mg base (L2.CX P w) 5 "need_word" ["width", "value"] (spNeed cR)) (c_Blend___init__ : CalleeI P w K mg base (L2.CX P w) 6 C "Blend" ["self", "width", "shift", "keep", "flip"] (spBlend C cW cS cR)) : FnOk P w K mg base (L2.CX P w) 8 f fd ["cls", "width", "value"] (spConst C cW cR) := by
  refine F.okX sc_Blend_constant (fun vs H Q E h => ?_) (fun cdv A outer s H vs Q E hr h => ?_)
  · obtain ⟨v1, v2, t1, t2, rfl, _⟩ := h
    rfl
  · obtain ⟨v1, v2, t1, t2, rfl, o1, o2, x1, x2, q⟩ := h
    refine ⟨_, (pss_cons (ps_expr (pe_callC c_need_width (hr.mono (by decide)) (by rfl) (passes_call KL.def_takes fun _ _ _ _ h => h) (pa_cons (pv 1) pa_nil)))
 (pss_cons (ps_expr (pe_callC c_need_word (hr.mono (by decide)) (by rfl) (passes_call KL.def_takes fun _ _ _ _ h => h) (pa_cons (pv 1) (pa_cons (pv 2) pa_nil))))
 (pss_one (ps_ret (KP.pe_makeL c_Blend___init__ (hr.mono (by decide)) (passes_call KL.def_takes fun _ _ _ _ h => h) (pv 0) (pa_cons (pv 1) (pa_cons pe_int (pa_cons pe_int (pa_cons (pv 2) pa_nil))))))))), at_start (σ := [some (.ref C), some v1, some v2]) rfl ?_⟩
    try dsimp only [KC.cx_KX]
    walk_at "rd"
    refine ⟨v1, t1, rfl, o1, fun y1 => ?_, x1⟩
    obtain ⟨w, w3, rfl⟩ := isW_of y1
    obtain rfl : v1 = .int w := o1
    walk_at "rd"
    refine ⟨w, v2, t2, rfl, w3, o2, fun y2 => ?_, x2 w rfl w3⟩
    obtain ⟨n, hn, rfl⟩ := isWord_of y2
    obtain rfl : v2 = .int n := o2
    walk_at "rd"
    refine KP.r_makeL ?_
    walk_at "rd"
    refine ⟨rfl, ?_⟩
    walk_at "rd"
    have wl := w3.le
    exact fun x dx nx ndx nxd => make_b (m := 0) nx ndx ⟨w3, by omega, by omega, Nat.two_pow_pos w, hn⟩ fun H' B' sm => q w n rfl rfl w3 hn H' x B' sm

end
end K04


namespace K04
open PySem L2 KB KO KY KV KW
def spInv (C : Addr) : Sp := fun vs H Q _ => ∃ (p : Addr) (w : Nat) (s : Int) (k f : Nat), vs = [.ref p] ∧ BlendAt C H p w s k f ∧ ∀ H' x, MadeAt C H' x w s k (f ^^^ KBL.onesN w) → Same H H' → Q (.ref x) H'
def spIsC (C : Addr) : Sp := fun vs H Q _ => ∃ (p : Addr) (w : Nat) (s : Int) (k f : Nat), vs = [.ref p] ∧ BlendAt C H p w s k f ∧ Q (.bl (decide (k = 0))) H
def spSrc (C : Addr) : SpG := fun vs H Q _ => ∃ (p : Addr) (w : Nat) (s : Int) (k f : Nat), vs = [.ref p] ∧ BlendAt C H p w s k f ∧ ∀ ys H', Same H H' → PairsAt H' ys (KBL.srcsK w s k) → Q ys H'
theorem nat_int {k : Nat} {j : Nat} : decide (V.int (k : Int) = V.int (j : Int)) = decide (k = j) := by
  rw [decI]
  exact decide_eq_decide.mpr (by omega)
theorem srcsK_next (w : Nat) (s : Int) (k i : Nat) : ((List.range (i + 1)).filter (k.testBit ·)).map (fun (p : Nat) => ((p : Int), (p : Int) - s)) = ((List.range i).filter (k.testBit ·)).map (fun (p : Nat) => ((p : Int), (p : Int) - s)) ++ (if k.testBit i = true then [((i : Int), (i : Int) - s)] else []) := by
  rw [List.range_succ, List.filter_append, List.map_append]
  congr 1
  rw [List.filter_cons]
  split <;> rfl


section
variable {P : Program} {w : World} {K : PySem.W.Frag} {mg : Str → Option Value} {base : Heap}
theorem ok_inv {f C aW cW cS cR : Addr} {fd : FuncData} (F : Fun K "__invert__" "Blend.__invert__" s_Blend___invert__ f fd) (T : TxtB K mg C aW) (c_ones : KB.Callee P w K mg base CX0 1 "ones" ["width"] spOnes) (c_Blend___init__ : CalleeI P w K mg base (L2.CX P w) 6 C "Blend" ["self", "width", "shift", "keep", "flip"] (spBlend C cW cS cR)) : FnOk P w K mg base CX0 8 f fd ["self"] (spInv C) := by
  refine F.ok sc_Blend___invert__ (fun vs H Q E h => ?_) (fun cdv A outer s H vs Q E hr h => ?_)
  · obtain ⟨p, w, s, k, f, rfl, _⟩ := h
    rfl
  · obtain ⟨p, w, s, k, f, rfl, ⟨nm, dx, h1⟩, q⟩ := h
    refine ⟨_, (pss_one (ps_ret (pe_makeC c_Blend___init__ (hr.mono (by decide)) (by rfl) passL (pa_cons (pe_fld (pv 0) rfl) (pa_cons (pe_fld (pv 0) rfl) (pa_cons (pe_fld (pv 0) rfl) (pa_cons (pe_op op_xor (pe_fld (pv 0) rfl) (pe_callC c_ones (hr.mono (by decide)) (by rfl) pass0 (pa_cons (pe_fld (pv 0) rfl) pa_nil))) pa_nil))))))), at_start (σ := [some (.ref p)]) rfl ?_⟩
    try dsimp only [cx_K]
    have cl := T.cl; have nw := T.n_width; have ns := T.n_shift; have nk := T.n_keep; have nf := T.n_flip
    walk_at "rd"
    refine ⟨w, rfl, nm.w3.le.2, ?_⟩
    walk_at "rd"
    rw [KBL.bXor]
    walk_at "rd"
    refine fun x dx nx ndx nxd => make_b nx ndx ⟨nm.w3, nm.lo, nm.hi, nm.kl, Nat.xor_lt_two_pow nm.fl (KBL.ones_lt w)⟩ fun H' B sm => ?_
    exact q H' x B sm

theorem ok_isc {f C aW : Addr} {fd : FuncData} {j : Nat} (F : Fun K "is_constant" "Blend.is_constant" s_Blend_is_constant f fd) (T : TxtB K mg C aW) : FnOk P w K mg base CX0 (j + 1) f fd ["self"] (spIsC C) := by
  refine F.ok sc_Blend_is_constant (fun vs H Q E h => ?_) (fun cdv A outer s H vs Q E hr h => ?_)
  · obtain ⟨p, w, s, k, f, rfl, _⟩ := h
    rfl
  · obtain ⟨p, w, s, k, f, rfl, ⟨nm, dx, h1⟩, q⟩ := h
    refine ⟨_, (pss_one (ps_ret (pe_cmpR op_eq (pe_fld (pv 0) rfl) pe_int (nomark _)))), at_start (σ := [some (.ref p)]) rfl ?_⟩
    try dsimp only [cx_K]
    have cl := T.cl; have nk := T.n_keep
    walk_at "rd"
    rw [show V.int 0 = V.int ((0 : Nat) : Int) from rfl, nat_int]
    exact q
theorem ok_src {f C aW : Addr} {oc kV dc pm cdv ct : Value} {od an : Option Addr} {sl : Array (Option Value)} (look : K.lookup f = some ⟨oc, od, .func (PySem.W.fnOf "sources" "Blend.sources" (defArgs s_Blend_sources) (defBody s_Blend_sources) (defScope s_Blend_sources) .none kV dc pm an cdv ct), sl⟩) (code : PySem.W.codeIn K cdv "Blend.sources" = true) (T : TxtB K mg C aW) :
    GFn P w K mg base 1 f (PySem.W.fnOf "sources" "Blend.sources" (defArgs s_Blend_sources) (defBody s_Blend_sources) (defScope s_Blend_sources) .none kV dc pm an cdv ct) ["self"] (spSrc C) := by
  refine gfn_of look code sc_Blend_sources (fun vs H Q E h => ?_) (fun A outer s H vs Q E pn hr h => ?_)
  · obtain ⟨p, w, s, k, f, rfl, _⟩ := h
    rfl
  · obtain ⟨p, w, s, k, f, rfl, ⟨nm, dx, h1⟩, q⟩ := h
    have wl := nm.w3.le
    have kp := nm.kl
    have wp := nm.w3.pow
    refine ⟨_, (gss_cons (KGen.gs_for owns_gcx rfl (pi_range1 rfl T.z_range (pa_cons (pe_fld (pv 0) rfl) pa_nil)) (pg_name (i := 1) sc_Blend_sources.nd rfl (by first | exact Or.inl rfl | exact Or.inr rfl))
 (gss_cons (KGen.gs_if (pt_cmpR op_eq (pe_op op_and (pe_op op_shr (pe_fld (pv 0) rfl) (pv 1)) pe_int) pe_int (nomark _)) (gss_cons (gs_yield (pe_tup (pa_cons (pv 1) (pa_cons (pe_op op_sub (pv 1) (pe_fld (pv 0) rfl)) pa_nil))))
 gss_nil) gss_nil)
 gss_nil))
 gss_nil), ?_⟩
    have cl := T.cl; have nw := T.n_width; have ns := T.n_shift; have nk := T.n_keep
    change tGThen (KGen.tGFor (iRng1 (tCons (tFld K (tVar 0) "width") tNil)) (gName 1) (tGThen (KGen.tGIf _ _ _) tG0)) tG0 { nx := fun ys x H' => Q ys H', rt := fun ys v H' => v = V.non ∧ Q ys H' } [] [some (.ref p), none] H
    refine KU.r_gthen (KU.r_gfor ?_)
    walk_at "rd"
    refine ⟨by omega, by omega, ?_⟩
    rw [show ((w : Int)).toNat = w by omega]
    refine KT.gforW (walk_range (lo := 0) (n := w)) (fun i ys σ' H' => ∃ y1, σ' = [some (.ref p), y1] ∧ Same H H' ∧ ys.length ≤ i ∧ PairsAt H' ys (((List.range i).filter (k.testBit ·)).map fun (p : Nat) => ((p : Int), (p : Int) - s))) ⟨_, rfl, Same.refl _, Nat.le_refl _, PairsAt.nil⟩ (fun _ _ _ _ _ _ => trivial) ?_ ?_
    · rintro i x ys σ' _ H1 hi ⟨y1, rfl, s1, ly, pa⟩ ⟨rfl, rfl⟩
      have h2 := s1 _ _ h1
      walk_at "rd"
      refine KU.r_gthen (KU.r_gif ?_)
      walk_at "rd"
      rw [show (0 + (i : Int)).toNat = i by omega, KBL.bit_one, show V.int 1 = V.int ((1 : Nat) : Int) from rfl, nat_int]
      have e0 : decide (KBL.b2n (k.testBit i) = 1) = k.testBit i := by cases k.testBit i <;> rfl
      rw [e0]
      have en := srcsK_next w s k i
      cases hb : k.testBit i with
      | true =>
        rw [hb, if_pos rfl] at en
        refine iteT ?_
        refine KU.r_gthen (KU.r_gyield (small1000' (by omega)) ?_)
        walk_at "rd"
        refine ⟨by walk_at "sz", fun a na => ?_⟩
        refine KU.r_g0 (KU.r_g0 ⟨_, rfl, s1.trans (same_new na), by simp; omega, ?_⟩)
        rw [en]
        refine (pa.up (same_new na)).snoc ?_
        rw [upd_same, show (0 : Int) + (i : Int) = (i : Int) by omega]
      | false =>
        rw [hb, if_neg (by decide), List.append_nil] at en
        refine iteF ?_
        refine KU.r_g0 (KU.r_g0 ⟨_, rfl, s1, by omega, ?_⟩)
        rw [en]
        exact pa
    · rintro ys σ' H1 ⟨y1, rfl, s1, ly, pa⟩
      exact KU.r_g0 (q ys H1 s1 pa)

end
end K04


namespace K04
open PySem L2 KB KO KY KV KW
/-- the pairs of a blend, handed out one by one: its consumer keeps all that was told -/
def spSrcH (C : Addr) : KH.SpH := fun vs H rs yl en => ∃ (p : Addr) (w : Nat) (s : Int) (k f : Nat), vs = [.ref p] ∧ BlendAt C H p w s k f ∧ (∀ j Hy H', rs j Hy H' → Same Hy H') ∧
  (∀ (j : Nat) (q : Int × Int) (H0 : Hp) (a : Addr), (KBL.srcsK w s k)[j]? = some q → H0 a = none → yl j H0 (.ref a) (upd H0 a (.tup [.int q.1, .int q.2]))) ∧ ∀ H0, en (KBL.srcsK w s k).length H0 H0
theorem srcs_at {w : Nat} {s : Int} {k i : Nat} (hi : i < w) (hb : k.testBit i = true) : (KBL.srcsK w s k)[((List.range i).filter (k.testBit ·)).length]? = some ((i : Int), (i : Int) - s) := by
  unfold KBL.srcsK
  have e : List.range w = List.range i ++ (List.range (w - i)).map (i + ·) := by
    rw [← List.range_add, Nat.add_sub_cancel' (Nat.le_of_lt hi)]
  obtain ⟨m, hm⟩ : ∃ m, w - i = m + 1 := ⟨w - i - 1, by omega⟩
  rw [e, hm, List.range_succ_eq_map, List.map_cons, List.filter_append, List.filter_cons, if_pos (by simpa using hb), List.map_append, List.getElem?_append_right (by simp), List.length_map, Nat.sub_self, List.map_cons]
  simp
theorem cnt_next (k i : Nat) : ((List.range (i + 1)).filter (k.testBit ·)).length = ((List.range i).filter (k.testBit ·)).length + (if k.testBit i = true then 1 else 0) := by
  rw [List.range_succ, List.filter_append, List.length_append, List.filter_cons]
  split <;> simp
theorem cnt_le (k i : Nat) : ((List.range i).filter (k.testBit ·)).length ≤ i := by
  have z := List.length_filter_le (k.testBit ·) (List.range i)
  rw [List.length_range] at z
  exact z

section
variable {P : Program} {w : World} {K : PySem.W.Frag} {mg : Str → Option Value} {base : Heap}
theorem ok_srcH {f C aW : Addr} {oc kV dc pm cdv ct : Value} {od an : Option Addr} {sl : Array (Option Value)} (look : K.lookup f = some ⟨oc, od, .func (PySem.W.fnOf "sources" "Blend.sources" (defArgs s_Blend_sources) (defBody s_Blend_sources) (defScope s_Blend_sources) .none kV dc pm an cdv ct), sl⟩) (code : PySem.W.codeIn K cdv "Blend.sources" = true) (T : TxtB K mg C aW) :
    KH.HFn P w K mg base 1 40 f (PySem.W.fnOf "sources" "Blend.sources" (defArgs s_Blend_sources) (defBody s_Blend_sources) (defScope s_Blend_sources) .none kV dc pm an cdv ct) ["self"] (spSrcH C) := by
  refine KH.hfn_of look code sc_Blend_sources (by decide +kernel) (fun vs H rs yl en h => ?_) (fun A outer L a go ops vs H rs yl en hr h => ?_)
  · obtain ⟨p, w, s, k, f, rfl, _⟩ := h
    rfl
  · obtain ⟨p, w, s, k, f, rfl, B, hrs, hyl, hen⟩ := h
    obtain ⟨nm, dx, h1⟩ := id B
    have wl := nm.w3.le
    refine ⟨_, (KH.gts_cons (KH.gt_for (by intro _ _ _; exact KH.goPI (pi_range1 rfl T.z_range (pa_cons (pe_fld (pv 0) rfl) pa_nil)) (by (try dsimp only [KH.GN.cx]) <;> exact rfl)) (by intro _ _ _; exact KH.goPG (pg_name (i := 1) sc_Blend_sources.nd rfl (by first | exact Or.inl rfl | exact Or.inr rfl)) (by (try dsimp only [KH.GN.cx]) <;> exact rfl))
 (KH.gts_cons (KH.gt_if (by intro _ _ _; exact KH.goPT (pt_cmpR op_eq (pe_op op_and (pe_op op_shr (pe_fld (pv 0) rfl) (pv 1)) pe_int) pe_int (nomark _)) (by (try dsimp only [KH.GN.cx]) <;> exact rfl)) (KH.gts_cons (KH.gt_yield (by intro _ _ _; exact KH.goPE (pe_tup (pa_cons (pv 1) (pa_cons (pe_op op_sub (pv 1) (pe_fld (pv 0) rfl)) pa_nil))) (by (try dsimp only [KH.GN.cx]) <;> exact rfl)))
 KH.gts_nil) KH.gts_nil)
 KH.gts_nil))
 KH.gts_nil), fun H0 r0 => ?_⟩
    have cl := T.cl; have nw := T.n_width; have ns := T.n_shift; have nk := T.n_keep
    have h0 : H0 p = some (.ins C dx (flB w s k f)) := hrs _ _ _ r0 _ _ h1
    refine KH.r_hthen (KH.r_hfor ?_)
    walk_at "rd"
    refine ⟨by omega, by omega, ?_⟩
    rw [show ((w : Int)).toNat = w by omega]
    refine KH.hforW (walk_range (lo := 0) (n := w)) (fun i j H0 σ' H' => H' = H0 ∧ j = ((List.range i).filter (k.testBit ·)).length ∧ H0 p = some (.ins C dx (flB w s k f)) ∧ ∃ y1, σ' = [some (.ref p), y1]) ⟨rfl, rfl, h0, _, rfl⟩ (fun _ _ _ _ _ _ _ => trivial) ?_ ?_
    · rintro i x j H1 σ' _ H2 hi ⟨rfl, ej, h2, y1, rfl⟩ ⟨rfl, rfl⟩
      walk_at "rd"
      refine KH.r_hthen (KH.r_hif ?_)
      walk_at "rd"
      rw [show (0 + (i : Int)).toNat = i by omega, KBL.bit_one, show V.int 1 = V.int ((1 : Nat) : Int) from rfl, nat_int]
      have e0 : decide (KBL.b2n (k.testBit i) = 1) = k.testBit i := by cases k.testBit i <;> rfl
      rw [e0]
      have en := cnt_next k i
      have le := cnt_le k i
      cases hb : k.testBit i with
      | true =>
        rw [hb, if_pos rfl] at en
        refine iteT ?_
        refine KH.r_hthen (KH.r_hyield (show j + 1 < 40 by omega) ?_)
        walk_at "rd"
        refine ⟨by walk_at "sz", fun a na => ⟨?_, fun H3 r3 => ?_⟩⟩
        · have z := hyl j _ H2 a (by rw [ej]; exact srcs_at hi hb) na
          rw [show (0 : Int) + (i : Int) = (i : Int) by omega]
          exact z
        · refine KH.r_h0 (KH.r_h0 ⟨rfl, by rw [en, ej], ?_, _, rfl⟩)
          exact hrs _ _ _ r3 _ _ (same_new na _ _ h2)
      | false =>
        rw [hb, if_neg (by decide), Nat.add_zero] at en
        refine iteF ?_
        refine KH.r_h0 (KH.r_h0 ⟨rfl, by rw [en]; exact ej, h2, _, rfl⟩)
    · rintro j H1 σ' H2 ⟨rfl, ej, h2, y1, rfl⟩
      refine KH.r_h0 ?_
      have z := hen H2
      rw [show (KBL.srcsK w s k).length = j by unfold KBL.srcsK; rw [List.length_map, ej]] at z
      exact z
end
end K04


namespace K04
open PySem L2 KB KO KY KV KW
/-! ### a list made of the pairs of a blend -/
theorem same_wo {H H' : Hp} {D : Addr} {o : HO} (n : H D = none) (s : Same (upd H D o) H') : Same H (KH.wo H' D) ∧ H' D = some o := by
  refine ⟨fun b u e => ?_, s _ _ upd_same⟩
  have ne : b ≠ D := ne_of_none e n
  rw [KH.wo_ne ne]
  exact s _ _ (by rw [upd_ne ne]; exact e)
theorem lc_src {K : PySem.W.Frag} {C p : Addr} {w : Nat} {s : Int} {k f : Nat} {ta : TE} {g : TG} {tt : TT} {te : TE} {vs : List Nat} {σ : L2.St} {H : Hp} {Q : VK} (Pv : Nat → List V → Hp → Prop) (ha : ∀ Q' : VK, Q' (.ref p) H → ta σ H Q') (B : BlendAt C H p w s k f)
    (h0 : Pv 0 [] H) (mono : ∀ j acc H1 H2, Pv j acc H1 → Same H1 H2 → Pv j acc H2)
    (step : ∀ (D : Addr) (j : Nat) (acc : List V) (H0 : Hp) (a : Addr) (q : Int × Int) (Nx : List V → Hp → Prop), (KBL.srcsK w s k)[j]? = some q → Pv j acc H0 → Same H H0 → H0 a = none → H0 D = none → a ≠ D → (∀ acc' H4, Same (upd (upd H0 a (.tup [.int q.1, .int q.2])) D (.lst acc)) H4 → Pv (j + 1) acc' (KH.wo H4 D) → Nx acc' (KH.wo H4 D)) →
      g (.ref a) (wipe σ vs) (upd (upd H0 a (.tup [.int q.1, .int q.2])) D (.lst acc)) fun σ2 H2 => wipe σ2 vs = wipe σ vs ∧ tt σ2 H2 fun b H3 => if b = true then te σ2 H3 fun y H4 => H4 D = some (.lst acc) ∧ acc.length < sizeLine ∧ Nx (acc ++ [y]) (KH.wo H4 D) else H3 D = some (.lst acc) ∧ Nx acc (KH.wo H3 D))
    (fin : ∀ (D : Addr) (acc : List V) (H' : Hp), Same H H' → Pv (KBL.srcsK w s k).length acc H' → H' D = none → Q (.ref D) (upd H' D (.lst acc))) : KH.tLcH (KH.tHMeth C "sources" (spSrcH C) ta) g tt te vs σ H Q := by
  obtain ⟨nm, dx, h1⟩ := id B
  refine ⟨fun j acc Hy H' => Pv j acc H' ∧ Same H H' ∧ Same Hy H', ha _ ⟨p, dx, _, rfl, h1, rfl, fun _ Hy H' => Same Hy H', fun j H0 x H' => ∃ (a : Addr) (q : Int × Int), x = .ref a ∧ (KBL.srcsK w s k)[j]? = some q ∧ H0 a = none ∧ H' = upd H0 a (.tup [.int q.1, .int q.2]), fun j H0 H' => j = (KBL.srcsK w s k).length ∧ H' = H0,
    ⟨p, w, s, k, f, rfl, B, fun _ _ _ z => z, fun j q H0 a e n => ⟨a, q, rfl, e, n, rfl⟩, fun H0 => ⟨rfl, rfl⟩⟩, ⟨h0, Same.refl _, Same.refl _⟩, fun _ _ _ _ z => z.2.2, fun D nD => ⟨?_, ?_⟩⟩⟩
  · rintro j acc Hy H0 _ _ ⟨pv, s1, s2⟩ ⟨a, q, rfl, e, na, rfl⟩ n0 n1
    have ne : a ≠ D := fun z => by
      rw [z, upd_same] at n1
      cases n1
    refine step D j acc H0 a q (fun acc' H' => Pv (j + 1) acc' H' ∧ Same H H' ∧ Same (upd H0 a (.tup [.int q.1, .int q.2])) H') e pv s1 na n0 ne fun acc' H4 s4 pv4 => ?_
    obtain ⟨z, _⟩ := same_wo n1 s4
    exact ⟨pv4, (s1.trans (same_new na)).trans z, z⟩
  · rintro j acc Hy H0 _ ⟨pv, s1, s2⟩ ⟨rfl, rfl⟩ n0 n1
    exact fin D acc _ s1 pv n1
/-! ### dict(pairs) -/
theorem val_merge {kvs : List (Key × V)} : ∀ {acc : List (Key × V)} (k : Key), (kvs.map (·.1)).Nodup → valV (mergeK acc kvs) k = match valV kvs k with | some v => some v | none => valV acc k := by
  induction kvs with
  | nil => intro acc k _; rfl
  | cons p r ih =>
    intro acc k nd
    rw [List.map_cons, List.nodup_cons] at nd
    show valV (mergeK (putK acc p.1 p.2) r) k = _
    rw [ih k nd.2]
    by_cases e : p.1 = k
    · rw [valV_pos e]
      have no : valV r k = none := by
        unfold valV
        rw [List.find?_eq_none.mpr]
        · rfl
        · intro x hx z
          have z : x.1 = k := by simpa using z
          exact nd.1 (by rw [e, ← z]; exact List.mem_map_of_mem hx)
      rw [no, valV_put, if_pos e.symm]
    · rw [valV_neg e, valV_put, if_neg (fun z => e z.symm)]
def kvP (L : List (Int × Int)) : List (Key × V) := L.map fun q => (Sum.inl q.1, .int q.2)
theorem pairs_keys {K : PySem.W.Frag} {H : Hp} : ∀ {ys : List V} {L : List (Int × Int)}, PairsAt H ys L → ∃ ps : List Addr, ys = ps.map V.ref ∧ Paired (fun p (kv : Key × V) => SqT K H p [kV kv.1, kv.2]) ps (kvP L)
  | [], [], _ => ⟨[], rfl, .nil⟩
  | [], _ :: _, h => by have := h.1; simp at this
  | _ :: _, [], h => by have := h.1; simp at this
  | y :: ys, q :: L, h => by
    obtain ⟨a, rfl, e⟩ := h.2 0 y q rfl rfl
    obtain ⟨ps, rfl, r⟩ := pairs_keys (K := K) h.tail
    exact ⟨a :: ps, rfl, .cons (SqT.of e) r⟩
/-- where a source of the second blend is a place of the first one -/
def lookS (w : Nat) (s : Int) (k : Nat) (n : Int) : Option Int := if 0 ≤ n ∧ n < w ∧ k.testBit n.toNat = true then some (n - s) else none
theorem nodup_src (w : Nat) (s : Int) (k : Nat) : ((kvP (KBL.srcsK w s k)).map (·.1)).Nodup := by
  unfold kvP KBL.srcsK
  rw [List.map_map, List.map_map]
  refine List.pairwise_map.mpr ((List.Pairwise.filter _ List.nodup_range).imp fun {a b} ne e => ne ?_)
  have e : (Sum.inl (a : Int) : Key) = Sum.inl (b : Int) := e
  have := Sum.inl.inj e
  omega
theorem val_look (w : Nat) (s : Int) (k : Nat) (n : Int) : valV (mergeK [] (kvP (KBL.srcsK w s k))) (Sum.inl n) = (lookS w s k n).map V.int := by
  rw [val_merge _ (nodup_src w s k), valV_nil]
  have out : valV (kvP (KBL.srcsK w s k)) (Sum.inl n) = (lookS w s k n).map V.int := by
    unfold lookS
    split
    · rename_i h
      obtain ⟨h1, h2, h3⟩ := h
      obtain ⟨m, rfl⟩ : ∃ m : Nat, n = m := ⟨n.toNat, by omega⟩
      have mem : ((Sum.inl (m : Int) : Key), V.int ((m : Int) - s)) ∈ kvP (KBL.srcsK w s k) := by
        unfold kvP KBL.srcsK
        rw [List.map_map]
        exact List.mem_map.mpr ⟨m, List.mem_filter.mpr ⟨List.mem_range.mpr (by omega), by simpa using h3⟩, rfl⟩
      cases z : valV (kvP (KBL.srcsK w s k)) (Sum.inl (m : Int)) with
      | none =>
        unfold valV at z
        have z' := List.find?_eq_none.mp (Option.map_eq_none_iff.mp z) _ mem
        simp at z'
      | some v =>
        unfold valV at z
        obtain ⟨kv, e1, e2⟩ := Option.map_eq_some_iff.mp z
        have hk : kv.1 = Sum.inl (m : Int) := by simpa using List.find?_some e1
        have hm := List.mem_of_find?_eq_some e1
        unfold kvP KBL.srcsK at hm
        rw [List.map_map] at hm
        obtain ⟨m', _, e3⟩ := List.mem_map.mp hm
        rw [← e3] at hk e2
        have hk : (Sum.inl (m' : Int) : Key) = Sum.inl (m : Int) := hk
        have := Sum.inl.inj hk
        have e2 : V.int ((m' : Int) - s) = v := e2
        rw [← e2, Option.map_some, show (m' : Int) = (m : Int) from this]
    · rename_i h
      rw [Option.map_none]
      unfold valV
      rw [List.find?_eq_none.mpr]
      · rfl
      · intro kv hm z
        have z : kv.1 = Sum.inl n := by simpa using z
        unfold kvP KBL.srcsK at hm
        rw [List.map_map] at hm
        obtain ⟨m', hm', e3⟩ := List.mem_map.mp hm
        rw [← e3] at z
        have z : (Sum.inl (m' : Int) : Key) = Sum.inl n := z
        obtain rfl : (m' : Int) = n := Sum.inl.inj z
        obtain ⟨g1, g2⟩ := List.mem_filter.mp hm'
        have g1 := List.mem_range.mp g1
        exact h ⟨by omega, by omega, by simpa using g2⟩
  rw [out]
  cases lookS w s k n <;> rfl
def jP (w : Nat) (s : Int) (k : Nat) (q : Int × Int) : Option (Int × Int) := (lookS w s k q.2).map fun v => (q.1, v)
def joinP (w : Nat) (s : Int) (k : Nat) (s' : Int) (k' : Nat) : List (Int × Int) := (KBL.srcsK w s' k').filterMap (jP w s k)
def spJoin (C : Addr) : Sp := fun vs H Q _ => ∃ (p p' : Addr) (w : Nat) (s s' : Int) (k k' f f' : Nat), vs = [.ref p, .ref p'] ∧ BlendAt C H p w s k f ∧ BlendAt C H p' w s' k' f' ∧ ∀ (l : Addr) (ys : List V) (H' : Hp), Same H H' → H' l = some (.lst ys) → PairsAt H' ys (joinP w s k s' k') → Q (.ref l) H'
def thK (w k k' : Nat) (s' : Int) : Nat := k' &&& KBL.shN w k s'
def thF (w f k' f' : Nat) (s' : Int) : Nat := f' ^^^ (k' &&& KBL.shN w f s')
def thS (w : Nat) (s : Int) (k k' : Nat) (s' : Int) : Int := if thK w k k' s' = 0 then 0 else s + s'
def spThen (C cW : Addr) : Sp := fun vs H Q E => ∃ (p p' : Addr) (w w' : Nat) (s s' : Int) (k k' f f' : Nat), vs = [.ref p, .ref p'] ∧ BlendAt C H p w s k f ∧ BlendAt C H p' w' s' k' f' ∧ (w' ≠ w → ∀ d H', Same H H' → H' d = some (.xd [("value", .int w')]) → E (.ref cW) (some d) H') ∧
  (w' = w → (thK w k k' s' ≠ 0 → 0 - (w : Int) ≤ s + s' ∧ s + s' ≤ w) ∧ ∀ H' x, MadeAt C H' x w (thS w s k k' s') (thK w k k' s') (thF w f k' f' s') → Same H H' → Q (.ref x) H')

section
variable {P : Program} {w : World} {K : PySem.W.Frag} {mg : Str → Option Value} {base : Heap}
theorem ok_then {f C aW cW cS cR : Addr} {fd : FuncData} (F : Fun K "then" "Blend.then" s_Blend_then f fd) (T : TxtB K mg C aW) (e_InvalidWidth : KX.ErrMk P w K mg base cW "InvalidWidth" "value") (c_shifted : KB.Callee P w K mg base CX0 2 "shifted" ["value", "width", "shift"] spSh) (c_Blend___init__ : CalleeI P w K mg base (L2.CX P w) 6 C "Blend" ["self", "width", "shift", "keep", "flip"] (spBlend C cW cS cR)) : FnOk P w K mg base (L2.CX P w) 8 f fd ["self", "c"] (spThen C cW) := by
  refine F.okX sc_Blend_then (fun vs H Q E h => ?_) (fun cdv A outer s H vs Q E hr h => ?_)
  · obtain ⟨p, p', w, w', s, s', k, k', f, f', rfl, _⟩ := h
    rfl
  · obtain ⟨p, p', w, w', s, s', k, k', f, f', rfl, B1, B2, x, q⟩ := h
    obtain ⟨n1, dx, h1⟩ := id B1
    obtain ⟨n2, dx', h2⟩ := id B2
    refine ⟨_, (pss_cons (ps_if (pt_cmpR op_ne (pe_fld (pv 1) rfl) (pe_fld (pv 0) rfl) (nomark _)) (pss_one (ps_raise rfl KL.def_takes (KX.pmkC e_InvalidWidth (hr.mono (by decide)) (by rfl) (pa_cons (pe_fld (pv 1) rfl) pa_nil))))
 pss_nil)
 (pss_cons (ps_set (i := 2) sc_Blend_then.nd rfl (by first | exact Or.inl rfl | exact Or.inr rfl) (pe_op op_and (pe_fld (pv 1) rfl) (pe_callC c_shifted (hr.mono (by decide)) (by rfl) pass0 (pa_cons (pe_fld (pv 0) rfl) (pa_cons (pe_fld (pv 0) rfl) (pa_cons (pe_fld (pv 1) rfl) pa_nil))))))
 (pss_cons (ps_set (i := 3) sc_Blend_then.nd rfl (by first | exact Or.inl rfl | exact Or.inr rfl) (pe_op op_xor (pe_fld (pv 1) rfl) (pe_op op_and (pe_fld (pv 1) rfl) (pe_callC c_shifted (hr.mono (by decide)) (by rfl) pass0 (pa_cons (pe_fld (pv 0) rfl) (pa_cons (pe_fld (pv 0) rfl) (pa_cons (pe_fld (pv 1) rfl) pa_nil)))))))
 (pss_one (ps_ret (pe_makeC c_Blend___init__ (hr.mono (by decide)) (by rfl) (passes_call KL.def_takes fun _ _ _ _ h => h) (pa_cons (pe_fld (pv 0) rfl) (pa_cons (pe_ifExp (pt_cmpR op_ne (pv 2) pe_int (nomark _)) (pe_op op_add (pe_fld (pv 0) rfl) (pe_fld (pv 1) rfl)) pe_int) (pa_cons (pv 2) (pa_cons (pv 3) pa_nil)))))))))), at_start (σ := [some (.ref p), some (.ref p'), none, none]) rfl ?_⟩
    try dsimp only [KC.cx_KX]
    have cl := T.cl; have nw := T.n_width; have ns := T.n_shift; have nk := T.n_keep; have nf := T.n_flip
    walk_at "rd"
    refine r_iteN2 (fun hw => ?_) (fun hw => ?_)
    · walk_at "rd"
      refine KX.r_raiseO ?_ (fun Q1 Q2 hh => ?_)
      · refine ⟨_, rfl, p', C, dx', _, _, rfl, h2, cl, nw, fb_w, ?_⟩
        exact fun d H' sm hd => x (fun z => hw (by rw [z])) d H' sm hd
      · rintro ⟨v, e1, a, C', dx1, fs, v2, e2, e3, e4, e5, e6, e7⟩
        exact ⟨v, e1, a, C', dx1, fs, v2, e2, e3, e4, e5, e6, hh _ _ e7⟩
    have ew : w' = w := by have := V.int.inj hw; omega
    subst ew
    obtain ⟨rg, q⟩ := q rfl
    clear x
    have a1 := n2.lo
    have a2 := n2.hi
    walk_at "rd"
    refine ⟨w', k, s', rfl, n1.w3, n1.kl, a1, a2, ?_⟩
    walk_at "rd"
    rw [KBL.bAnd]
    walk_at "rd"
    refine ⟨w', f, s', rfl, n1.w3, n1.fl, a1, a2, ?_⟩
    walk_at "rd"
    rw [KBL.bAnd, KBL.bXor]
    have kl : thK w' k k' s' < 2 ^ w' := Nat.and_lt_two_pow _ (KBL.sh_lt n1.kl)
    have fl : thF w' f k' f' s' < 2 ^ w' := Nat.xor_lt_two_pow n2.fl (Nat.and_lt_two_pow _ (KBL.sh_lt n1.fl))
    unfold thS at q
    change _
    walk_at "rd"
    refine r_iteN2 (fun h => ?_) (fun h => ?_)
    · have h' : ¬ thK w' k k' s' = 0 := fun z => h (by rw [show k' &&& KBL.shN w' k s' = 0 from z]; rfl)
      rw [if_neg h'] at q
      walk_at "rd"
      refine fun x dx nx ndx nxd => make_b nx ndx ⟨n1.w3, (rg h').1, (rg h').2, kl, fl⟩ fun H' B sm => ?_
      exact q H' x B sm
    · have h' : thK w' k k' s' = 0 := by have := V.int.inj h; unfold thK; omega
      rw [if_pos h'] at q
      walk_at "rd"
      refine fun x dx nx ndx nxd => make_b nx ndx ⟨n1.w3, by omega, by omega, kl, fl⟩ fun H' B sm => ?_
      exact q H' x B sm
end
end K04


namespace K04
open PySem L2 KB KO KY KV KW
theorem srcs_len32 {w : Nat} {s : Int} {k : Nat} (h : w ≤ 32) : (KBL.srcsK w s k).length ≤ 32 := by
  unfold KBL.srcsK
  rw [List.length_map]
  exact Nat.le_trans (cnt_le k w) h

section
variable {P : Program} {w : World} {K : PySem.W.Frag} {mg : Str → Option Value} {base : Heap}
theorem ok_joined {f C aW : Addr} {fd : FuncData} (F : Fun K "_law_joined" "_law_joined" s__law_joined f fd) (T : TxtB K mg C aW) (h_Blend_sources : KH.CalleeHM P w K mg base 1 40 C "sources" ["self"] (spSrcH C)) : FnOk P w K mg base CX0 4 f fd ["_law_first", "_law_second"] (spJoin C) := by
  refine F.ok sc__law_joined (fun vs H Q E h => ?_) (fun cdv A outer s H vs Q E hr h => ?_)
  · obtain ⟨p, p', w, s, s', k, k', f, f', rfl, _⟩ := h
    rfl
  · obtain ⟨p, p', w, s, s', k, k', f, f', rfl, B1, B2, q⟩ := h
    refine ⟨_, (pss_cons (ps_set (i := 2) sc__law_joined.nd rfl (by first | exact Or.inl rfl | exact Or.inr rfl) (pe_callTy (call_dictP rfl) (by rfl) T.z_dict (by decide +kernel) (pa_cons (KH.pe_lcH (own := [("_law_place", 3), ("_law_source", 4)]) (g := gTup K 2 (gCons (gName 3) (gCons (gName 4) gNil))) (tt := tYes) sc__law_joined.nd (by decide) (hr.mono (by decide)) (KH.ph_meth0 h_Blend_sources (pv 0) (hr.mono (by decide))) (blkOk_by (own := [("_law_place", 3), ("_law_source", 4)]) (N := ["_law_first", "_law_second", "_law_inner", "_law_place", "_law_source"]) (sc := defScope s__law_joined) (by decide +kernel)) (by decide +kernel) (fun _ _ _ _ _ => (pg_tup rfl (pgs_cons (pg_name (i := 3) sc__law_joined.nd rfl (by first | exact Or.inl rfl | exact Or.inr rfl)) (pgs_cons (pg_name (i := 4) sc__law_joined.nd rfl (by first | exact Or.inl rfl | exact Or.inr rfl)) pgs_nil)))) (fun _ _ _ _ _ => pts_nil) (fun _ _ _ _ _ => (pe_tup (pa_cons (pv 3) (pa_cons (pv 4) pa_nil))))) pa_nil)))
 (pss_one (ps_ret (KH.pe_lcH (own := [("_law_place", 3), ("_law_source", 4)]) (g := gTup K 2 (gCons (gName 3) (gCons (gName 4) gNil))) sc__law_joined.nd (by decide) (hr.mono (by decide)) (KH.ph_meth0 h_Blend_sources (pv 1) (hr.mono (by decide))) (blkOk_by (own := [("_law_place", 3), ("_law_source", 4)]) (N := ["_law_first", "_law_second", "_law_inner", "_law_place", "_law_source"]) (sc := defScope s__law_joined) (by decide +kernel)) (by decide +kernel) (fun _ _ _ _ _ => (pg_tup rfl (pgs_cons (pg_name (i := 3) sc__law_joined.nd rfl (by first | exact Or.inl rfl | exact Or.inr rfl)) (pgs_cons (pg_name (i := 4) sc__law_joined.nd rfl (by first | exact Or.inl rfl | exact Or.inr rfl)) pgs_nil)))) (fun _ _ _ _ _ => (pts_one (pt_cmp (pc_din (hu_of hr) (pv 4) (pv 2))))) (fun _ _ _ _ _ => (pe_tup (pa_cons (pv 3) (pa_cons (pe_dget (hu_of hr) (pv 2) (pv 4) (fun _ _ => rfl)) pa_nil)))))))), at_start (σ := [some (.ref p), some (.ref p'), none, none, none]) rfl ?_⟩
    try dsimp only [cx_K]
    have wl := B1.1.w3.le.2
    have sl : 1000 ≤ sizeLine := by decide
    walk_at "rd"
    refine lc_src (K := K) (fun j acc H' => PairsAt H' acc ((KBL.srcsK w s k).take j)) (fun Q' q' => ⟨_, rfl, q'⟩) B1 PairsAt.nil (fun j acc Ha Hb pa sm => pa.up sm) ?_ ?_
    · intro D j acc H0 a qq Nx e pa s1 na nD ne hN
      have hD : upd H0 a (.tup [.int qq.1, .int qq.2]) D = none := by rw [upd_ne (Ne.symm ne)]; exact nD
      have ha : upd (upd H0 a (.tup [.int qq.1, .int qq.2])) D (.lst acc) a = some (.tup [.int qq.1, .int qq.2]) := upd_new hD upd_same
      walk_at "rd"
      refine ⟨rfl, ?_⟩
      unfold tYes
      refine iteT ?_
      walk_at "rd"
      refine ⟨by walk_at "sz", fun b nb => ?_⟩
      have sb := same_new (o := .tup [.int qq.1, .int qq.2]) nb
      obtain ⟨z1, z2⟩ := same_wo hD sb
      refine ⟨z2, ?_, hN _ _ sb ?_⟩
      · have z := pa.1
        have z3 := srcs_len32 (s := s) (k := k) wl
        rw [List.length_take] at z
        omega
      · have nbD : b ≠ D := fun z => by rw [z, upd_same] at nb; cases nb
        rw [List.take_add_one, e]
        exact (pa.up ((same_new na).trans z1)).snoc (by rw [KH.wo_ne nbD]; exact upd_same)
    intro D acc H1 s1 pa nD
    rw [List.take_length] at pa
    obtain ⟨ps, rfl, pr⟩ := pairs_keys (K := K) (pa.up (same_new (o := .lst acc) nD))
    walk_at "rd"
    refine ⟨D, ps, _, rfl, SqL.of upd_same, pr, fun d nd => ?_⟩
    have sd := (s1.trans (same_new (o := .lst (ps.map V.ref)) nD)).trans (same_new (o := .dK (mergeK [] (kvP (KBL.srcsK w s k)))) nd)
    have hd : upd (upd H1 D (.lst (ps.map V.ref))) d (.dK (mergeK [] (kvP (KBL.srcsK w s k)))) d = some (.dK (mergeK [] (kvP (KBL.srcsK w s k)))) := upd_same
    generalize upd (upd H1 D (.lst (ps.map V.ref))) d (.dK (mergeK [] (kvP (KBL.srcsK w s k)))) = H3 at sd hd ⊢
    clear pr pa nD nd s1
    walk_at "rd"
    refine lc_src (K := K) (fun j acc H' => PairsAt H' acc (((KBL.srcsK w s' k').take j).filterMap (jP w s k))) (fun Q' q' => ⟨_, rfl, q'⟩) (B2.up sd) PairsAt.nil (fun j acc Ha Hb pa sm => pa.up sm) ?_ ?_
    · intro D j acc H0 a qq Nx e pa s1 na nD ne hN
      have hD : upd H0 a (.tup [.int qq.1, .int qq.2]) D = none := by rw [upd_ne (Ne.symm ne)]; exact nD
      have ha : upd (upd H0 a (.tup [.int qq.1, .int qq.2])) D (.lst acc) a = some (.tup [.int qq.1, .int qq.2]) := upd_new hD upd_same
      have hd2 : upd (upd H0 a (.tup [.int qq.1, .int qq.2])) D (.lst acc) d = some (.dK (mergeK [] (kvP (KBL.srcsK w s k)))) := upd_new hD (upd_new na (s1 _ _ hd))
      have dg := DGet.k (k := Sum.inl qq.2) hd2
      rw [val_look] at dg
      have tk : ((KBL.srcsK w s' k').take (j + 1)).filterMap (jP w s k) = ((KBL.srcsK w s' k').take j).filterMap (jP w s k) ++ ((lookS w s k qq.2).map fun v => (qq.1, v)).toList := by
        rw [List.take_add_one, e, List.filterMap_append]
        have one : List.filterMap (jP w s k) [qq] = ((lookS w s k qq.2).map fun v => (qq.1, v)).toList := by
          rw [List.filterMap_cons]
          unfold jP
          cases lookS w s k qq.2 <;> rfl
        rw [← one]
        rfl
      walk_at "rd"
      refine ⟨rfl, ?_⟩
      walk_at "rd"
      refine ⟨_, rfl, ?_⟩
      refine ⟨_, rfl, d, _, rfl, dg, ?_⟩
      cases hv : lookS w s k qq.2 with
      | none =>
        rw [hv] at tk
        refine ⟨_, rfl, iteF ⟨upd_same, hN _ _ (Same.refl _) ?_⟩⟩
        rw [tk]
        show PairsAt _ acc (_ ++ [])
        rw [List.append_nil]
        exact pa.up ((same_new na).trans (same_wo hD (Same.refl _)).1)
      | some v =>
        rw [hv] at tk dg
        refine ⟨_, rfl, iteT ?_⟩
        walk_at "rd"
        refine ⟨d, .int v, rfl, dg, ?_⟩
        walk_at "rd"
        refine ⟨by walk_at "sz", fun b nb => ?_⟩
        have sb := same_new (o := .tup [.int qq.1, .int v]) nb
        obtain ⟨z1, z2⟩ := same_wo hD sb
        refine ⟨z2, ?_, hN _ _ sb ?_⟩
        · have z := pa.1
          have z3 := srcs_len32 (s := s') (k := k') wl
          have z4 := List.length_filterMap_le (jP w s k) ((KBL.srcsK w s' k').take j)
          rw [List.length_take] at z4
          omega
        · have nbD : b ≠ D := fun z => by rw [z, upd_same] at nb; cases nb
          rw [tk]
          exact (pa.up ((same_new na).trans z1)).snoc (p := (qq.1, v)) (by rw [KH.wo_ne nbD]; exact upd_same)
    · intro D acc H1 s1 pa nD
      rw [List.take_length] at pa
      exact q D acc _ ((sd.trans s1).trans (same_new nD)) upd_same (pa.up (same_new nD))
end
end K04

namespace K04
open PySem L2 KB KO KY KV KW
/-! ### one blend behind another: the plain law -/
section
variable {w : Nat} {s s' : Int} {m m' f f' : Nat}
theorem shift_of {p : Nat} (h : KBL.src w s m p = true) : KBL.shiftN w s m = s := by
  unfold KBL.shiftN
  refine if_neg fun z => ?_
  have e := KBL.bit_keep w s m p
  rw [z, h, Nat.zero_testBit] at e
  cases e
/-- where the place p of the second comes from -/
theorem th_bit (p : Nat) : (thK w (KBL.keepN w s m) (KBL.keepN w s' m') (KBL.shiftN w s' m')).testBit p = (KBL.src w s' m' p && KBL.src w s m ((p : Int) - s').toNat) := by
  unfold thK
  rw [Nat.testBit_and, KBL.bit_keep, KBL.bit_sh (KBL.keep_lt w s m)]
  cases h : KBL.src w s' m' p with
  | false => rfl
  | true =>
    obtain ⟨h1, h2, h3⟩ := KBL.src_of h
    rw [shift_of h, KBL.bit_keep, decide_eq_true h1, decide_eq_true h2]
    rfl
theorem th_shift {p : Nat} (h : KBL.src w s' m' p = true) (g : KBL.src w s m ((p : Int) - s').toNat = true) : thS w (KBL.shiftN w s m) (KBL.keepN w s m) (KBL.keepN w s' m') (KBL.shiftN w s' m') = s + s' := by
  unfold thS
  rw [if_neg, shift_of h, shift_of g]
  intro z
  have e := th_bit (w := w) (s := s) (m := m) (s' := s') (m' := m') p
  rw [z, h, g, Nat.zero_testBit] at e
  cases e
theorem th_src (p : Nat) : KBL.src w (thS w (KBL.shiftN w s m) (KBL.keepN w s m) (KBL.keepN w s' m') (KBL.shiftN w s' m')) (thK w (KBL.keepN w s m) (KBL.keepN w s' m') (KBL.shiftN w s' m')) p = (KBL.src w s' m' p && KBL.src w s m ((p : Int) - s').toNat) := by
  cases h : (KBL.src w s' m' p && KBL.src w s m ((p : Int) - s').toNat) with
  | false =>
    unfold KBL.src
    rw [th_bit, h]
    simp
  | true =>
    obtain ⟨h1, h2⟩ := Bool.and_eq_true_iff.mp h
    obtain ⟨a1, a2, a3⟩ := KBL.src_of h1
    obtain ⟨b1, b2, b3⟩ := KBL.src_of h2
    rw [th_shift h1 h2]
    unfold KBL.src
    rw [th_bit, h, decide_eq_true a1, decide_eq_true (show s + s' ≤ (p : Int) by omega), decide_eq_true (show (p : Int) - (s + s') < w by omega)]
    rfl
theorem th_range (h : thK w (KBL.keepN w s m) (KBL.keepN w s' m') (KBL.shiftN w s' m') ≠ 0) : 0 - (w : Int) ≤ KBL.shiftN w s m + KBL.shiftN w s' m' ∧ KBL.shiftN w s m + KBL.shiftN w s' m' ≤ w := by
  obtain ⟨p, hp⟩ := Nat.exists_testBit_of_ne_zero h
  rw [th_bit] at hp
  obtain ⟨h1, h2⟩ := Bool.and_eq_true_iff.mp hp
  obtain ⟨a1, a2, a3⟩ := KBL.src_of h1
  obtain ⟨b1, b2, b3⟩ := KBL.src_of h2
  rw [shift_of h1, shift_of h2]
  omega
theorem ap_then {v : Nat} (hf : f < 2 ^ w) (hv : v < 2 ^ w) : KBL.ap w (thS w (KBL.shiftN w s m) (KBL.keepN w s m) (KBL.keepN w s' m') (KBL.shiftN w s' m')) (thK w (KBL.keepN w s m) (KBL.keepN w s' m') (KBL.shiftN w s' m')) (thF w f (KBL.keepN w s' m') f' (KBL.shiftN w s' m')) v = KBL.ap w s' m' f' (KBL.ap w s m f v) := by
  refine KBL.bits_ext fun p => ?_
  rw [KBL.bit_ap hv, KBL.bit_ap (KBL.ap_lt hf hv), th_src, KBL.bit_ap hv]
  unfold thF
  rw [Nat.testBit_xor, Nat.testBit_and, KBL.bit_keep, KBL.bit_sh hf]
  cases h : KBL.src w s' m' p with
  | false => simp
  | true =>
    obtain ⟨h1, h2, h3⟩ := KBL.src_of h
    rw [shift_of h, decide_eq_true h1, decide_eq_true h2]
    cases g : KBL.src w s m ((p : Int) - s').toNat with
    | false => simp
    | true =>
      have e := th_shift h g
      rw [shift_of h] at e
      rw [e, show (((p : Int) - s').toNat : Int) - s = (p : Int) - (s + s') by omega]
      simp
theorem filter_two {α β γ : Type} {P R : α → Bool} {g1 : α → β} {g2 : α → γ} {J : β → Option γ} : ∀ l : List α, (∀ p ∈ l, (if P p = true then J (g1 p) else none) = if R p = true then some (g2 p) else none) → ((l.filter P).map g1).filterMap J = (l.filter R).map g2
  | [], _ => rfl
  | a :: r, h => by
    have ih := filter_two r fun p m => h p (List.mem_cons_of_mem _ m)
    have ha := h a List.mem_cons_self
    rw [List.filter_cons, List.filter_cons]
    by_cases hp : P a = true
    · rw [if_pos hp] at ha ⊢
      rw [List.map_cons, List.filterMap_cons, ha]
      by_cases hr : R a = true
      · rw [if_pos hr, if_pos hr, List.map_cons]
        exact congrArg _ ih
      · rw [if_neg hr, if_neg hr]
        exact ih
    · rw [if_neg hp] at ha ⊢
      by_cases hr : R a = true
      · rw [if_pos hr] at ha; cases ha
      · rw [if_neg hr]; exact ih
/-- the pairs of the whole are those of the two, joined -/
theorem join_th : joinP w (KBL.shiftN w s m) (KBL.keepN w s m) (KBL.shiftN w s' m') (KBL.keepN w s' m') = KBL.srcs w (thS w (KBL.shiftN w s m) (KBL.keepN w s m) (KBL.keepN w s' m') (KBL.shiftN w s' m')) (thK w (KBL.keepN w s m) (KBL.keepN w s' m') (KBL.shiftN w s' m')) := by
  unfold joinP KBL.srcsK KBL.srcs
  refine filter_two _ fun p hp => ?_
  rw [KBL.bit_keep, th_src]
  cases h : KBL.src w s' m' p with
  | false => rfl
  | true =>
    obtain ⟨h1, h2, h3⟩ := KBL.src_of h
    rw [if_pos rfl, Bool.true_and]
    unfold jP lookS
    rw [shift_of h]
    show Option.map _ (if 0 ≤ (p : Int) - s' ∧ (p : Int) - s' < w ∧ (KBL.keepN w s m).testBit ((p : Int) - s').toNat = true then some ((p : Int) - s' - KBL.shiftN w s m) else none) = _
    rw [KBL.bit_keep]
    cases g : KBL.src w s m ((p : Int) - s').toNat with
    | false => rw [if_neg (fun z => by cases z.2.2)]; rfl
    | true =>
      have e := th_shift h g
      rw [shift_of h, shift_of g] at e
      rw [if_pos ⟨by omega, h3, rfl⟩, shift_of g, e]
      show some ((p : Int), (p : Int) - s' - s) = some ((p : Int), (p : Int) - (s + s'))
      rw [show (p : Int) - s' - s = (p : Int) - (s + s') by omega]
theorem srcs_zero {k : Nat} : (KBL.srcs w s k = []) ↔ KBL.keepN w s k = 0 := by
  constructor
  · intro h
    refine KBL.bits_ext fun p => ?_
    rw [KBL.bit_keep, Nat.zero_testBit]
    cases e : KBL.src w s k p with
    | false => rfl
    | true =>
      obtain ⟨h1, _⟩ := KBL.src_of e
      have mem : ((p : Int), (p : Int) - s) ∈ KBL.srcs w s k := List.mem_map.mpr ⟨p, List.mem_filter.mpr ⟨List.mem_range.mpr h1, e⟩, rfl⟩
      rw [h] at mem
      exact absurd mem List.not_mem_nil
  · intro h
    unfold KBL.srcs
    rw [List.filter_eq_nil_iff.mpr]
    · rfl
    · intro p _ z
      have e := KBL.bit_keep w s k p
      rw [h, Nat.zero_testBit] at e
      rw [← e] at z
      cases z
/-- blends that do the same have the same numbers -/
theorem nums_same (h : ∀ v, v < 2 ^ w → KBL.ap w s m f v = KBL.ap w s' m' f' v) : decide (w = w ∧ KBL.shiftN w s m = KBL.shiftN w s' m' ∧ KBL.keepN w s m = KBL.keepN w s' m' ∧ f = f') = true := by
  obtain ⟨a, b, c⟩ := KBL.same_iff.mp (KBL.parting_none.mpr ⟨h 0 (Nat.two_pow_pos w), fun j hj => h _ (KBL.two_lt hj)⟩)
  exact decide_eq_true ⟨rfl, a, b, c⟩
end
end K04


namespace K04
open PySem L2 KB KO KY KV KW
/-! ### a made blend can be moved -/
theorem movOk {w : Nat} {s s' : Int} {m : Nat} (lo : 0 - (w : Int) ≤ s') (hi : s' ≤ w) : MovOk w (KBL.shiftN w s m) s' (KBL.keepN w s m) := by
  refine ⟨lo, hi, fun z => ?_⟩
  obtain ⟨p, hp⟩ := Nat.exists_testBit_of_ne_zero z
  rw [KBL.bit_sh (KBL.keep_lt w s m)] at hp
  simp only [Bool.and_eq_true, decide_eq_true_eq] at hp
  obtain ⟨h1, h2, h3⟩ := hp
  rw [KBL.bit_keep] at h3
  obtain ⟨g1, g2, g3⟩ := KBL.src_of h3
  have hk : KBL.keepN w s m ≠ 0 := fun y => by
    have e := KBL.bit_keep w s m ((p : Int) - s').toNat
    rw [y, h3, Nat.zero_testBit] at e
    cases e
  unfold KBL.shiftN
  rw [if_neg hk]
  omega

def spWord : Sp := fun vs H Q _ => ∃ (pen pc : Addr) (w k : Nat), vs = [.ref pen, .int w] ∧ W3 w ∧ PenC H pen pc (k + 7) ∧ ∀ (n : Nat) H', n < 2 ^ w → PenC H' pen pc k → Keep pen H H' → Q (.int n) H'
/-- a blend that does F -/
def DF (C : Addr) (H : Hp) (x : Addr) (w : Nat) (F : Nat → Nat) : Prop := ∃ (s : Int) (m f : Nat), MadeAt C H x w s m f ∧ ∀ v, v < 2 ^ w → KBL.ap w s m f v = F v
section
variable {K : PySem.W.Frag} {C cR cS cW x y : Addr} {w n : Nat} {F G : Nat → Nat} {H H' : Hp} {Q : VK} {E : XK}
theorem DF.up (h : DF C H x w F) (e : Same H H') : DF C H' x w F := by
  obtain ⟨s, m, f, h1, h2⟩ := h
  exact ⟨s, m, f, BlendAt.up h1 e, h2⟩
theorem BlendAt.sn {p : Addr} {s : Int} {k f : Nat} (h : BlendAt C H p w s k f) (e : KD.SameN H H') : BlendAt C H' p w s k f := by
  obtain ⟨n, dx, g⟩ := h
  exact ⟨n, dx, e.ins g⟩
theorem DF.sn (h : DF C H x w F) (e : KD.SameN H H') : DF C H' x w F := by
  obtain ⟨s, m, f, h1, h2⟩ := h
  exact ⟨s, m, f, BlendAt.sn h1 e, h2⟩
theorem DF.at (h : DF C H x w F) : ∃ (dx : Addr) (s k f : Int), H x = some (.ins C dx (flB w s k f)) := by
  obtain ⟨s, m, f, ⟨_, dx, e⟩, _⟩ := h
  exact ⟨dx, _, _, _, e⟩
theorem DF.w3 (h : DF C H x w F) : W3 w := by
  obtain ⟨s, m, f, ⟨nm, _⟩, _⟩ := h
  exact nm.w3
theorem DF.lt (h : DF C H x w F) {v : Nat} (hv : v < 2 ^ w) : F v < 2 ^ w := by
  obtain ⟨s, m, f, ⟨nm, _⟩, e⟩ := h
  rw [← e v hv]
  exact KBL.ap_lt nm.fl hv
theorem DF.ext (h : DF C H x w F) (e : ∀ v, v < 2 ^ w → F v = G v) : DF C H x w G := by
  obtain ⟨s, m, f, h1, h2⟩ := h
  exact ⟨s, m, f, h1, fun v hv => (h2 v hv).trans (e v hv)⟩
theorem df_of {s : Int} {m f : Nat} (h : MadeAt C H x w s m f) : DF C H x w (KBL.ap w s m f) := ⟨s, m, f, h, fun _ _ => rfl⟩
theorem df_plain (h : MadeAt C H x w 0 (KBL.onesN w) 0) : DF C H x w fun v => v := ⟨0, KBL.onesN w, 0, h, fun v hv => by
  rw [KBL.ap_begin hv, Nat.xor_zero]
  refine KBL.bits_ext fun p => ?_
  rw [Nat.testBit_and, KBL.bit_sh hv, show KBL.onesN w = 2 ^ w - 1 from rfl, Nat.testBit_two_pow_sub_one]
  by_cases hp : p < w
  · simp [hp]
  · have z : v.testBit p = false := Nat.testBit_lt_two_pow (Nat.lt_of_lt_of_le hv (Nat.pow_le_pow_right (by decide) (Nat.le_of_not_lt hp)))
    simp [hp, z]⟩
theorem sp_bin {s : Int} {m f : Nat} {gk gf : Nat → Nat → Nat → Nat} (M : MadeAt C H x w s m f) (hn : n < 2 ^ w) (q : ∀ H' x', MadeAt C H' x' w (KBL.shiftN w s m) (gk w (KBL.keepN w s m) n) (gf w f n) → Same H H' → Q (.ref x') H') : spBin C cR gk gf [.ref x, .int (n : Nat)] H Q E := by
  refine ⟨x, w, _, _, f, _, .sc (.int n), rfl, M, rfl, fun n' _ e H' x' M' sm => ?_, fun z => ?_⟩
  · obtain rfl : n = n' := by cases e; rfl
    exact q H' x' M' sm
  · rw [isWord_nat hn] at z; cases z
theorem sp_and (d : DF C H x w F) (hn : n < 2 ^ w) (q : ∀ H' x', DF C H' x' w (fun v => F v &&& n) → Same H H' → Q (.ref x') H') : spBin C cR kAnd fAnd [.ref x, .int (n : Nat)] H Q E := by
  obtain ⟨s, m, f, M, e⟩ := d
  exact sp_bin M hn fun H' x' M' sm => q H' x' ⟨_, _, _, M', fun v hv => (KBL.ap_and ..).trans (congrArg (· &&& n) (e v hv))⟩ sm
theorem sp_or (d : DF C H x w F) (hn : n < 2 ^ w) (q : ∀ H' x', DF C H' x' w (fun v => F v ||| n) → Same H H' → Q (.ref x') H') : spBin C cR kOr fOr [.ref x, .int (n : Nat)] H Q E := by
  obtain ⟨s, m, f, M, e⟩ := d
  exact sp_bin M hn fun H' x' M' sm => q H' x' ⟨_, _, _, M', fun v hv => KBL.ap_or.trans (congrArg (· ||| n) (e v hv))⟩ sm
theorem sp_xor (d : DF C H x w F) (hn : n < 2 ^ w) (q : ∀ H' x', DF C H' x' w (fun v => F v ^^^ n) → Same H H' → Q (.ref x') H') : spBin C cR kXor fXor [.ref x, .int (n : Nat)] H Q E := by
  obtain ⟨s, m, f, M, e⟩ := d
  exact sp_bin M hn fun H' x' M' sm => q H' x' ⟨_, _, _, M', fun v hv => (KBL.ap_xor ..).trans (congrArg (· ^^^ n) (e v hv))⟩ sm
theorem df_l {sp : Sp} (d : DF C H x w F) (h : sp [.ref x, .int (n : Nat)] H Q E) : KR.rBinD C sp E (.ref x) (.int (n : Nat)) H Q := by
  obtain ⟨dx, _, _, _, e⟩ := d.at
  exact ⟨x, dx, _, .sc (.int n), rfl, e, rfl, h⟩
theorem df_r {sp : Sp} (d : DF C H x w F) (h : sp [.ref x, .int (n : Nat)] H Q E) : KR.rBinR C sp E (.int (n : Nat)) (.ref x) H Q := by
  obtain ⟨dx, _, _, _, e⟩ := d.at
  exact ⟨x, dx, _, .sc (.int n), rfl, e, rfl, h⟩
theorem df_shl (d : DF C H x w F) (hn : n ≤ w) (q : ∀ H' x', DF C H' x' w (fun v => KBL.shN w (F v) n) → Same H H' → Q (.ref x') H') : spShl C cS [.ref x, .int (n : Nat)] H Q E := by
  obtain ⟨s, m, f, M, e⟩ := d
  refine ⟨x, w, _, _, f, _, .sc (.int n), rfl, M, rfl, fun n' _ en => ?_, fun z => ?_⟩
  · obtain rfl : n = n' := by cases en; rfl
    exact ⟨movOk (by omega) (by omega), fun H' x' M' sm => q H' x' ⟨_, _, _, M', fun v hv => (KBL.ap_move M.1.fl hv).trans (congrArg (KBL.shN w · n) (e v hv))⟩ sm⟩
  · rw [isStep_nat hn] at z; cases z
theorem df_shr (d : DF C H x w F) (hn : n ≤ w) (q : ∀ H' x', DF C H' x' w (fun v => KBL.shN w (F v) (0 - n)) → Same H H' → Q (.ref x') H') : spShr C cS [.ref x, .int (n : Nat)] H Q E := by
  obtain ⟨s, m, f, M, e⟩ := d
  refine ⟨x, w, _, _, f, _, .sc (.int n), rfl, M, rfl, fun n' _ en => ?_, fun z => ?_⟩
  · obtain rfl : n = n' := by cases en; rfl
    exact ⟨movOk (by omega) (by omega), fun H' x' M' sm => q H' x' ⟨_, _, _, M', fun v hv => (KBL.ap_move M.1.fl hv).trans (congrArg (KBL.shN w · (0 - n)) (e v hv))⟩ sm⟩
  · rw [isStep_nat hn] at z; cases z
theorem df_inv (d : DF C H x w F) (q : ∀ H' x', DF C H' x' w (fun v => F v ^^^ KBL.onesN w) → Same H H' → Q (.ref x') H') : KW.rUnO C (spInv C) E (.ref x) H Q := by
  obtain ⟨dx, _, _, _, e0⟩ := d.at
  obtain ⟨s, m, f, M, e⟩ := d
  exact ⟨x, dx, _, rfl, e0, x, w, _, _, f, rfl, M, fun H' x' M' sm => q H' x' ⟨_, _, _, M', fun v hv => (KBL.ap_xor ..).trans (congrArg (· ^^^ KBL.onesN w) (e v hv))⟩ sm⟩
theorem df_then (d : DF C H x w F) (g : DF C H y w G) (q : ∀ H' x', DF C H' x' w (fun v => G (F v)) → Same H H' → Q (.ref x') H') : spThen C cW [.ref x, .ref y] H Q E := by
  obtain ⟨s, m, f, M, e⟩ := d
  obtain ⟨s', m', f', M', e'⟩ := g
  refine ⟨x, y, w, w, _, _, _, _, f, f', rfl, M, M', fun z => absurd rfl z, fun _ => ⟨th_range, fun H' x' R sm => q H' x' ⟨_, _, _, R, fun v hv => ?_⟩ sm⟩⟩
  rw [ap_then M.1.fl hv, e v hv]
  refine e' _ ?_
  rw [← e v hv]
  exact KBL.ap_lt M.1.fl hv
theorem df_ne (d : DF C H x w F) (g : DF C H y w F) (q : Q (.bl false) H) : KO.rNeOwn C (spBEq K C) (.ref x) (.ref y) H Q := by
  obtain ⟨s, m, f, M, e⟩ := d
  obtain ⟨s', m', f', M', e'⟩ := g
  obtain ⟨dx, h1⟩ := M.2
  obtain ⟨dy, h2⟩ := M'.2
  refine ⟨x, dx, _, y, dy, _, rfl, rfl, h1, h2, .inl ⟨x, y, w, w, _, _, _, _, f, f', rfl, M, M', true, ?_, q⟩⟩
  rw [nums_same fun v hv => (e v hv).trans (e' v hv).symm]
theorem df_eq (nf : PySem.W.notFirst K C (.ref C) = true) (d : DF C H x w F) (g : DF C H y w F) (q : Q (.bl true) H) : KO.rEqOwn K C (spBEq K C) (.ref x) (.ref y) H Q := by
  obtain ⟨s, m, f, M, e⟩ := d
  obtain ⟨s', m', f', M', e'⟩ := g
  obtain ⟨dx, h1⟩ := M.2
  obtain ⟨dy, h2⟩ := M'.2
  refine ⟨x, dx, _, y, C, dy, _, rfl, rfl, h1, h2, nf, .inl ⟨x, y, w, w, _, _, _, _, f, f', rfl, M, M', ?_⟩⟩
  rw [nums_same fun v hv => (e v hv).trans (e' v hv).symm]
  exact q
theorem df_call (d : DF C H x w F) (hn : n < 2 ^ w) (q : Q (.int (F n : Nat)) H) : spBCall C cR [.ref x, .int (n : Nat)] H Q E := by
  obtain ⟨s, m, f, M, e⟩ := d
  refine ⟨x, w, _, _, f, _, .sc (.int n), rfl, M, rfl, fun n' _ en => ?_, fun z => ?_⟩
  · obtain rfl : n = n' := by cases en; rfl
    rw [KBL.ap_norm, e n hn]
    exact q
  · rw [isWord_nat hn] at z; cases z
theorem df_const (w3 : W3 w) (hn : n < 2 ^ w) (q : ∀ H' x', DF C H' x' w (fun _ => n) → Same H H' → Q (.ref x') H') : spConst C cW cR [.ref C, .int w, .int (n : Nat)] H Q E := by
  refine ⟨.int w, .int (n : Nat), .sc (.int w), .sc (.int n), rfl, rfl, rfl, fun z => ?_, fun w' e _ z => ?_, fun w' n' e1 e2 _ _ H5 x B sm => ?_⟩
  · rw [isW_nat w3] at z; cases z
  · obtain rfl : w = w' := by cases e; rfl
    rw [isWord_nat hn] at z; cases z
  · obtain rfl : w = w' := by cases e1; rfl
    obtain rfl : n = n' := by cases e2; rfl
    refine q H5 x ⟨_, _, _, B, fun v hv => ?_⟩ sm
    rw [KBL.ap_begin hv, Nat.and_zero, Nat.zero_xor]
end
end K04


namespace K04
open PySem L2 KB KO KY KV KW
theorem make_n {C cW cS cR : Addr} {H : Hp} {w : Nat} {s : Int} {f : Nat} {Q : Hp → Prop} {E : XK} {x dx : Addr} (nx : H x = none) (ndx : H dx = none) (w3 : W3 w) (lo : 0 - (w : Int) ≤ s) (hi : s ≤ w) (hf : f < 2 ^ w) (q : ∀ H', MadeAt C H' x w s (KBL.onesN w) f → Same H H' → Q H') :
    spBlend C cW cS cR [.ref x, .int w, .int s, .non, .int f] (upd (upd H dx (.own x)) x (.ins C dx [])) (fun v H3 => v = .non ∧ Q H3) E := by
  have sh : isShift w (.sc (.int s)) = true := decide_eq_true ⟨lo, hi⟩
  refine ⟨x, dx, _, _, _, _, .sc (.int w), .sc (.int s), .sc .non, .sc (.int f), rfl, upd_same, rfl, rfl, rfl, rfl, fun z => ?_, fun w' e w3 z => ?_, fun w' e w3 _ z => ?_, fun w' e w3 _ _ z => ?_, fun w' s' f' e1 e2 e4 _ nm' H' B kp => ⟨rfl, ?_⟩⟩
  · rw [isW_nat w3] at z; cases z
  · cases e; rw [sh] at z; cases z
  · cases z
  · obtain rfl : w = w' := by cases e; rfl
    rw [isWord_nat hf] at z; cases z
  · obtain rfl : w = w' := by cases e1; rfl
    obtain rfl : s = s' := by cases e2; rfl
    obtain rfl : f = f' := by cases e4; rfl
    exact q H' B fun b o e => kp b o (by rw [upd_ne (ne_of_none e nx), upd_ne (ne_of_none e ndx)]; exact e) (ne_of_none e nx)
def spMk (C : Addr) : Sp := fun vs H Q _ => ∃ (pen pc : Addr) (w k : Nat), vs = [.ref pen, .int w] ∧ W3 w ∧ PenC H pen pc (k + 40) ∧ ∀ (s : Int) (m f : Nat) (x : Addr) H', MadeAt C H' x w s m f → PenC H' pen pc k → Keep pen H H' → Q (.ref x) H'
def spBehind (C : Addr) : Sp := fun vs H Q _ => ∃ (pen pc x : Addr) (w k : Nat) (F : Nat → Nat), vs = [.ref pen, .ref x] ∧ DF C H x w F ∧ PenC H pen pc (k + 8) ∧ ∀ H', PenC H' pen pc k → Keep pen H H' → Q (.bl true) H'
/-- a pair that is to be the same: of what follows x, and of x with what is behind it -/
def PrAt (C : Addr) (H : Hp) (w : Nat) (F : Nat → Nat) (t : Addr) : Prop := ∃ (a b : Addr) (G : Nat → Nat), H t = some (.tup [.ref a, .ref b]) ∧ DF C H a w (fun v => G (F v)) ∧ DF C H b w G
theorem PrAt.up {C : Addr} {H H' : Hp} {w : Nat} {F : Nat → Nat} {t : Addr} (h : PrAt C H w F t) (e : Same H H') : PrAt C H' w F t := by
  obtain ⟨a, b, G, h1, h2, h3⟩ := h
  exact ⟨a, b, G, e _ _ h1, h2.up e, h3.up e⟩
structure Bh (C pen pc x y : Addr) (w k : Nat) (F : Nat → Nat) (ts : List Addr) (H0 H : Hp) : Prop where
  d : DF C H x w F
  g : DF C H y w (fun v => v)
  pn : PenC H pen pc k
  kp : Keep pen H0 H
  ps : ∀ t ∈ ts, PrAt C H w F t
theorem Bh.up {C pen pc x y : Addr} {w k : Nat} {F : Nat → Nat} {ts : List Addr} {H0 H H' : Hp} (b : Bh C pen pc x y w k F ts H0 H) (e : Same H H') : Bh C pen pc x y w k F ts H0 H' := ⟨b.d.up e, b.g.up e, b.pn.up e, b.kp.tr (Keep.same e), fun t m => (b.ps t m).up e⟩
theorem Bh.pair {C pen pc x y a c t : Addr} {w k : Nat} {F G : Nat → Nat} {ts : List Addr} {H0 H : Hp} (b : Bh C pen pc x y w k F ts H0 H) (da : DF C H a w (fun v => G (F v))) (dc : DF C H c w G) (nt : H t = none) : Bh C pen pc x y w k F (t :: ts) H0 (upd H t (.tup [.ref a, .ref c])) := by
  have e := same_new (o := .tup [.ref a, .ref c]) nt
  have z := b.up e
  exact ⟨z.d, z.g, z.pn, z.kp, fun u m => by
    rcases List.mem_cons.mp m with rfl | m
    · exact ⟨a, c, G, upd_same, da.up e, dc.up e⟩
    · exact z.ps u m⟩
theorem absorb (a n : Nat) : a &&& n ||| n = n := KBL.bits_ext fun p => by
  rw [Nat.testBit_or, Nat.testBit_and]
  cases a.testBit p <;> cases n.testBit p <;> rfl
theorem there_back {w u j : Nat} (hu : u < 2 ^ w) : KBL.shN w (KBL.shN w u j) (0 - (j : Int)) = u &&& KBL.onesN w / 2 ^ j := KBL.bits_ext fun p => by
  rw [KBL.bit_sh (KBL.sh_lt hu), KBL.bit_sh hu, Nat.testBit_and, ← Nat.shiftRight_eq_div_pow, Nat.testBit_shiftRight, show KBL.onesN w = 2 ^ w - 1 from rfl, Nat.testBit_two_pow_sub_one, show ((p : Int) - (0 - (j : Int))).toNat = p + j by omega, show (((p + j : Nat) : Int) - (j : Int)).toNat = p by omega]
  rw [decide_eq_true (show (0 : Int) - (j : Int) ≤ (p : Int) by omega), decide_eq_true (show (j : Int) ≤ ((p + j : Nat) : Int) by omega), show j + p = p + j from Nat.add_comm j p]
  by_cases h : p + j < w
  · rw [decide_eq_true h, decide_eq_true (show p < w by omega)]
    simp
  · rw [decide_eq_false h]
    simp
def optV : Option Nat → V
  | none => .non
  | some m => .int (m : Nat)

section
variable {P : Program} {w : World} {K : PySem.W.Frag} {mg : Str → Option Value} {base : Heap}
theorem ok_word {f : Addr} {fd : FuncData} (F : Fun K "_law_word" "_law_word" s__law_word f fd) (T : Txt mg) (c__law_draw : KB.Callee P w K mg base CX0 1 "_law_draw" ["_law_pen_here", "_law_many"] spDraw) : FnOk P w K mg base CX0 2 f fd ["_law_pen_here", "_law_wide"] spWord := by
  refine F.ok sc__law_word (fun vs H Q E h => ?_) (fun cdv A outer s H vs Q E hr h => ?_)
  · obtain ⟨pen, pc, w, k, rfl, _⟩ := h
    rfl
  · obtain ⟨pen, pc, w, k, rfl, w3, pn, q⟩ := h
    have wl := w3.le
    have wp := w3.pow
    refine ⟨_, (pss_cons (ps_set (i := 2) sc__law_word.nd rfl (by first | exact Or.inl rfl | exact Or.inr rfl) (pe_dget (hu_of hr) (pe_disp (pps_cons pe_int pe_int (pps_cons pe_int pe_int (pps_cons pe_int pe_int pps_nil))) (by rfl) (by rfl) (fun z => by cases z) (by decide)) (pv 1) (fun _ _ => rfl)))
 (pss_cons (ps_set (i := 3) sc__law_word.nd rfl (by first | exact Or.inl rfl | exact Or.inr rfl) pe_int)
 (pss_cons (ps_for PassesOwn.never rfl (pi_range1 rfl T.z_range (pa_cons (pe_op op_fdiv (pv 1) pe_int) pa_nil)) (pg_name (i := 4) sc__law_word.nd rfl (by first | exact Or.inl rfl | exact Or.inr rfl))
 (pss_one (ps_set (i := 3) sc__law_word.nd rfl (by first | exact Or.inl rfl | exact Or.inr rfl) (pe_op op_add (pe_op op_mul pe_int (pv 3)) (pe_callC c__law_draw (hr.mono (by decide)) (by rfl) pass0 (pa_cons (pv 0) (pa_cons pe_int pa_nil)))))))
 (pss_cons (ps_set (i := 5) sc__law_word.nd rfl (by first | exact Or.inl rfl | exact Or.inr rfl) (pe_op op_shl pe_int (pe_callC c__law_draw (hr.mono (by decide)) (by rfl) pass0 (pa_cons (pv 0) (pa_cons (pv 1) pa_nil)))))
 (pss_one (ps_ret (pe_ix ix_list (pe_lst (pa_cons pe_int (pa_cons (pv 2) (pa_cons (pv 5) (pa_cons (pe_op op_sub (pv 2) (pv 5)) (pa_cons (pv 3) (pa_cons (pv 3) pa_nil))))))) (pe_callC c__law_draw (hr.mono (by decide)) (by rfl) pass0 (pa_cons (pv 0) (pa_cons pe_int pa_nil))) (fun _ _ => rfl)))))))), at_start (σ := [some (.ref pen), some (.int w), none, none, none, none]) rfl ?_⟩
    try dsimp only [cx_K]
    walk_at "rd"
    refine r_wdict w3 (mono_var1 rfl) fun H1 s1 => ?_
    rw [top_is w3]
    have pn1 := pn.up s1
    walk_at "rd"
    have hb : ((w : Int) / 8).toNat ≤ 4 ∧ 256 ^ ((w : Int) / 8).toNat = 2 ^ w := by
      rcases w3 with rfl | rfl | rfl <;> decide
    obtain ⟨hb1, hb2⟩ := hb
    refine ⟨by omega, by omega, ?_⟩
    refine forW (walk_range (lo := 0) (n := ((w : Int) / 8).toNat)) (fun i σ H' => ∃ (y4 : Option V) (m : Nat), σ = [some (.ref pen), some (.int w), some (.int ((KBL.onesN w : Nat) : Int)), some (.int m), y4, none] ∧ m < 256 ^ i ∧ PenC H' pen pc (k + 7 - i) ∧ Keep pen H H')
      ⟨_, 0, rfl, by decide, pn1, Keep.same s1⟩ (fun _ _ _ _ _ => trivial) ?_ ?_
    · rintro i x σ' _ H2 hi ⟨y4, m, rfl, hm, pn2, kp2⟩ ⟨rfl, rfl⟩
      have hm4 : m < 4294967296 := Nat.lt_of_lt_of_le hm (Nat.le_trans (Nat.pow_le_pow_right (by decide) (show i ≤ 4 by omega)) (by decide))
      walk_at "rd"
      refine ⟨pen, pc, 256, k + 7 - (i + 1), rfl, by decide, by decide, pn2.mono (by omega), fun r H3 r0 r1 pn3 kp3 => ?_⟩
      walk_at "rd"
      refine ⟨some (.int (0 + (i : Int))), 256 * m + r.toNat, ?_, ?_, pn3, kp2.tr kp3⟩
      · rw [show ((256 * m + r.toNat : Nat) : Int) = 256 * (m : Int) + r by omega]
        rfl
      · rw [Nat.pow_succ]
        omega
    · rintro σ' H2 ⟨y4, m, rfl, hm, pn2, kp2⟩
      rw [hb2] at hm
      walk_at "rd"
      refine ⟨pen, pc, w, k + 1, rfl, by omega, by omega, pn2.mono (by omega), fun r H3 r0 r1 pn3 kp3 => ?_⟩
      walk_at "rd"
      have er : ((1 : Int) * 2 ^ r.toNat) = ((2 ^ r.toNat : Nat) : Int) := by
        rw [Int.one_mul, Int.natCast_pow]
        rfl
      rw [er]
      have hr2 : 2 ^ r.toNat < 2 ^ w := KBL.two_lt (by omega)
      generalize 2 ^ r.toNat = o at hr2 ⊢
      walk_at "rd"
      refine ⟨by walk_at "sz", fun l nl => ?_⟩
      walk_at "rd"
      have nlp : l ≠ pen := pn3.ne nl
      refine ⟨pen, pc, 6, k, rfl, by decide, by decide, (pn3.up (same_new nl)).mono (by omega), fun r6 H4 a0 a1 pn4 kp4 => ?_⟩
      have hl := kp4 _ _ upd_same nlp
      have kp : Keep pen H H4 := ((kp2.tr kp3).tr (Keep.same (same_new nl))).tr kp4
      have on : KBL.onesN w = 2 ^ w - 1 := rfl
      have fin : ∀ n : Nat, n < 2 ^ w → Q (.int n) H4 := fun n hn => q n H4 hn pn4 kp
      clear kp kp2 kp3 kp4 pn2 pn3 pn4 q
      obtain ⟨j, rfl⟩ : ∃ j : Nat, r6 = (j : Int) := ⟨r6.toNat, by omega⟩
      have hj : j < 6 := by omega
      match j, hj with
      | 0, _ => exact r_ixL (n := 0) (SqL.of hl) rfl (fin 0 (by omega))
      | 1, _ => exact r_ixL (n := 1) (SqL.of hl) rfl (fin _ (by omega))
      | 2, _ => exact r_ixL (n := 2) (SqL.of hl) rfl (fin _ hr2)
      | 3, _ => exact r_ixL (n := 3) (v := .int ((KBL.onesN w - o : Nat) : Int)) (SqL.of hl) (by rw [show ((KBL.onesN w - o : Nat) : Int) = ((KBL.onesN w : Nat) : Int) - (o : Int) by omega]; rfl) (fin _ (by omega))
      | 4, _ => exact r_ixL (n := 4) (SqL.of hl) rfl (fin _ hm)
      | 5, _ => exact r_ixL (n := 5) (SqL.of hl) rfl (fin _ hm)
      | j + 6, h => exact absurd h (by omega)

theorem ok_mk {f C aW cW cS cR : Addr} {fd : FuncData} (F : Fun K "_law_blend" "_law_blend" s__law_blend f fd) (T : TxtB K mg C aW) (c_Blend___init__ : CalleeI P w K mg base (L2.CX P w) 6 C "Blend" ["self", "width", "shift", "keep", "flip"] (spBlend C cW cS cR))
    (c__law_word : KB.Callee P w K mg base CX0 2 "_law_word" ["_law_pen_here", "_law_wide"] spWord) (c__law_draw : KB.Callee P w K mg base CX0 1 "_law_draw" ["_law_pen_here", "_law_many"] spDraw) : FnOk P w K mg base CX0 9 f fd ["_law_pen_here", "_law_wide"] (spMk C) := by
  refine F.ok sc__law_blend (fun vs H Q E h => ?_) (fun cdv A outer s H vs Q E hr h => ?_)
  · obtain ⟨pen, pc, w, k, rfl, _⟩ := h
    rfl
  · obtain ⟨pen, pc, w, k, rfl, w3, pn, q⟩ := h
    have wl := w3.le
    refine ⟨_, (pss_cons (ps_set (i := 2) sc__law_blend.nd rfl (by first | exact Or.inl rfl | exact Or.inr rfl) (pe_ix ix_list (pe_lst (pa_cons pe_int (pa_cons (pe_op op_sub (pe_callC c__law_draw (hr.mono (by decide)) (by rfl) pass0 (pa_cons (pv 0) (pa_cons pe_int pa_nil))) pe_int) (pa_cons (pe_op op_sub (pe_callC c__law_draw (hr.mono (by decide)) (by rfl) pass0 (pa_cons (pv 0) (pa_cons (pe_op op_add (pe_op op_mul pe_int (pv 1)) pe_int) pa_nil))) (pv 1)) pa_nil)))) (pe_callC c__law_draw (hr.mono (by decide)) (by rfl) pass0 (pa_cons (pv 0) (pa_cons pe_int pa_nil))) (fun _ _ => rfl)))
 (pss_cons (ps_set (i := 3) sc__law_blend.nd rfl (by first | exact Or.inl rfl | exact Or.inr rfl) (pe_ix ix_list (pe_lst (pa_cons pe_non (pa_cons (pe_callC c__law_word (hr.mono (by decide)) (by rfl) pass0 (pa_cons (pv 0) (pa_cons (pv 1) pa_nil))) (pa_cons (pe_op op_or (pe_callC c__law_word (hr.mono (by decide)) (by rfl) pass0 (pa_cons (pv 0) (pa_cons (pv 1) pa_nil))) (pe_callC c__law_word (hr.mono (by decide)) (by rfl) pass0 (pa_cons (pv 0) (pa_cons (pv 1) pa_nil)))) pa_nil)))) (pe_callC c__law_draw (hr.mono (by decide)) (by rfl) pass0 (pa_cons (pv 0) (pa_cons pe_int pa_nil))) (fun _ _ => rfl)))
 (pss_one (ps_ret (pe_makeC c_Blend___init__ (hr.mono (by decide)) (by rfl) passL (pa_cons (pv 1) (pa_cons (pv 2) (pa_cons (pv 3) (pa_cons (pe_callC c__law_word (hr.mono (by decide)) (by rfl) pass0 (pa_cons (pv 0) (pa_cons (pv 1) pa_nil))) pa_nil))))))))), at_start (σ := [some (.ref pen), some (.int w), none, none]) rfl ?_⟩
    try dsimp only [cx_K]
    walk_at "rd"
    refine ⟨pen, pc, 5, k + 39, rfl, by decide, by decide, pn, fun r1 H1 a1 b1 pn1 kp1 => ?_⟩
    walk_at "rd"
    refine ⟨pen, pc, 2 * (w : Int) + 1, k + 38, rfl, by omega, by omega, pn1, fun r2 H2 a2 b2 pn2 kp2 => ?_⟩
    walk_at "rd"
    refine ⟨by walk_at "sz", fun l nl => ?_⟩
    walk_at "rd"
    refine ⟨pen, pc, 3, k + 37, rfl, by decide, by decide, pn2.up (same_new nl), fun r3 H3 a3 b3 pn3 kp3 => ?_⟩
    have hl := kp3 _ _ upd_same (pn2.ne nl)
    have kp := (kp1.tr kp2).tr ((Keep.same (same_new nl)).tr kp3)
    obtain ⟨N, hN, at1⟩ := atI_map (xs := [0, r1 - 2, r2 - (w : Int)]) (g := V.int) a3 b3
    refine r_ixL (xs := [0, r1 - 2, r2 - (w : Int)].map V.int) (SqL.of hl) at1 ?_
    have hN0 : 0 - (w : Int) ≤ N ∧ N ≤ w := by
      simp only [List.mem_cons, List.not_mem_nil, or_false] at hN
      rcases hN with rfl | rfl | rfl <;> omega
    clear kp1 kp2 kp3 hl hN at1 nl pn1 pn2 a1 b1 a2 b2 a3 b3
    walk_at "rd"
    refine ⟨pen, pc, w, k + 30, rfl, w3, pn3, fun m1 H4 hm1 pn4 kp4 => ?_⟩
    walk_at "rd"
    refine ⟨pen, pc, w, k + 23, rfl, w3, pn4, fun m2 H5 hm2 pn5 kp5 => ?_⟩
    walk_at "rd"
    refine ⟨pen, pc, w, k + 16, rfl, w3, pn5, fun m3 H6 hm3 pn6 kp6 => ?_⟩
    walk_at "rd"
    rw [bOrN]
    have hm := Nat.or_lt_two_pow hm2 hm3
    refine ⟨by walk_at "sz", fun l nl => ?_⟩
    walk_at "rd"
    refine ⟨pen, pc, 3, k + 15, rfl, by decide, by decide, pn6.up (same_new nl), fun r4 H7 a4 b4 pn7 kp7 => ?_⟩
    have hl := kp7 _ _ upd_same (pn6.ne nl)
    have kp' := (((kp.tr kp4).tr kp5).tr kp6).tr ((Keep.same (same_new nl)).tr kp7)
    obtain ⟨o, ho, at1⟩ := atI_map (xs := [none, some m1, some (m2 ||| m3)]) (g := optV) a4 b4
    refine r_ixL (xs := [none, some m1, some (m2 ||| m3)].map optV) (SqL.of hl) at1 ?_
    have ho' : o = none ∨ ∃ m, o = some m ∧ m < 2 ^ w := by
      simp only [List.mem_cons, List.not_mem_nil, or_false] at ho
      rcases ho with rfl | rfl | rfl
      · exact .inl rfl
      · exact .inr ⟨_, rfl, hm1⟩
      · exact .inr ⟨_, rfl, hm⟩
    clear kp kp4 kp5 kp6 kp7 hl ho at1 nl pn3 pn4 pn5 pn6 a4 b4 hm1 hm2 hm3 hm
    walk_at "rd"
    refine ⟨pen, pc, w, k, rfl, w3, pn7.mono (by omega), fun n H8 hn pn8 kp8 => ?_⟩
    walk_at "rd"
    refine fun x dx nx ndx nxd => ?_
    rcases ho' with rfl | ⟨m, rfl, hm⟩
    · exact make_n nx ndx w3 hN0.1 hN0.2 hn fun H9 M sm => q _ _ _ _ _ M (pn8.up sm) ((kp'.tr kp8).tr (Keep.same sm))
    · exact make_b nx ndx ⟨w3, hN0.1, hN0.2, hm, hn⟩ fun H9 M sm => q _ _ _ _ _ M (pn8.up sm) ((kp'.tr kp8).tr (Keep.same sm))
theorem ok_behind {f C aW cW cS cR : Addr} {fd : FuncData} (F : Fun K "_law_behind_right" "_law_behind_right" s__law_behind_right f fd) (T : TxtB K mg C aW) (nf : PySem.W.notFirst K C (.ref C) = true)
    (d1_Blend : KC.CalleeID P w K mg base (L2.CX P w) 6 C "Blend" ["self", "width", "shift", "keep", "flip"] (spBlend C cW cS cR) [.int 0, .non, .int 0])
    (bd_Blend_and : KR.OwnBD P w K mg base (L2.CX P w) 8 C .BitAnd ["self", "other"] (spBin C cR kAnd fAnd)) (bd_Blend_or : KR.OwnBD P w K mg base (L2.CX P w) 8 C .BitOr ["self", "other"] (spBin C cR kOr fOr)) (bd_Blend_xor : KR.OwnBD P w K mg base (L2.CX P w) 8 C .BitXor ["self", "other"] (spBin C cR kXor fXor))
    (br_Blend_or : KR.OwnBR P w K mg base (L2.CX P w) 8 C .BitOr ["self", "other"] (spBin C cR kOr fOr)) (br_Blend_xor : KR.OwnBR P w K mg base (L2.CX P w) 8 C .BitXor ["self", "other"] (spBin C cR kXor fXor))
    (bd_Blend_shl : KR.OwnBD P w K mg base (L2.CX P w) 9 C .LShift ["self", "other"] (spShl C cS)) (bd_Blend_shr : KR.OwnBD P w K mg base (L2.CX P w) 9 C .RShift ["self", "other"] (spShr C cS)) (u_Blend : OwnU P w K mg base CX0 8 C ["self"] (spInv C))
    (ne_Blend : KO.OwnNe P w K mg base 1 C ["self", "other"] (spBEq K C)) (eq_Blend : KO.OwnM P w K mg base 1 C "__eq__" ["self", "other"] (spBEq K C)) (c_Blend_then : KB.CalleeM P w K mg base (L2.CX P w) 8 C "then" ["self", "c"] (spThen C cW))
    (cm_Blend_constant : KP.CalleeC P w K mg base (L2.CX P w) 8 C "constant" (spConst C cW cR))
    (c__law_word : KB.Callee P w K mg base CX0 2 "_law_word" ["_law_pen_here", "_law_wide"] spWord) (c__law_draw : KB.Callee P w K mg base CX0 1 "_law_draw" ["_law_pen_here", "_law_many"] spDraw) : FnOk P w K mg base CX0 11 f fd ["_law_pen_here", "_law_blend_here"] (spBehind C) := by
  refine F.ok sc__law_behind_right (fun vs H Q E h => ?_) (fun cdv A outer s H vs Q E hr h => ?_)
  · obtain ⟨pen, pc, x, w, k, F, rfl, _⟩ := h
    rfl
  · obtain ⟨pen, pc, x, w, k, F, rfl, d, pn, q⟩ := h
    have w3 := d.w3
    have wl := w3.le
    refine ⟨_, (pss_cons (ps_set (i := 2) sc__law_behind_right.nd rfl (by first | exact Or.inl rfl | exact Or.inr rfl) (pe_fld (pv 1) rfl))
 (pss_cons (ps_set (i := 3) sc__law_behind_right.nd rfl (by first | exact Or.inl rfl | exact Or.inr rfl) (pe_callC c__law_word (hr.mono (by decide)) (by rfl) pass0 (pa_cons (pv 0) (pa_cons (pv 2) pa_nil))))
 (pss_cons (ps_set (i := 4) sc__law_behind_right.nd rfl (by first | exact Or.inl rfl | exact Or.inr rfl) (pe_callC c__law_draw (hr.mono (by decide)) (by rfl) pass0 (pa_cons (pv 0) (pa_cons (pe_op op_add (pv 2) pe_int) pa_nil))))
 (pss_cons (ps_set (i := 5) sc__law_behind_right.nd rfl (by first | exact Or.inl rfl | exact Or.inr rfl) (KC.pe_makeD d1_Blend (hr.mono (by decide)) (by rfl) passL (pa_cons (pv 2) pa_nil)))
 (pss_cons (ps_set (i := 6) sc__law_behind_right.nd rfl (by first | exact Or.inl rfl | exact Or.inr rfl) (pe_lst (pa_cons (pe_tup (pa_cons (pe_op (KR.op_binD bd_Blend_and (hr.mono (by decide)) passL) (pv 1) (pv 3)) (pa_cons (pe_op (KR.op_binD bd_Blend_and (hr.mono (by decide)) passL) (pv 5) (pv 3)) pa_nil))) (pa_cons (pe_tup (pa_cons (pe_op (KR.op_binR br_Blend_or (hr.mono (by decide)) passL) (pv 3) (pv 1)) (pa_cons (pe_op (KR.op_binR br_Blend_or (hr.mono (by decide)) passL) (pv 3) (pv 5)) pa_nil))) (pa_cons (pe_tup (pa_cons (pe_op (KR.op_binD bd_Blend_xor (hr.mono (by decide)) passL) (pv 1) (pv 3)) (pa_cons (pe_op (KR.op_binR br_Blend_xor (hr.mono (by decide)) passL) (pv 3) (pv 5)) pa_nil))) pa_nil)))))
 (pss_cons (ps_set (i := 6) sc__law_behind_right.nd rfl (by first | exact Or.inl rfl | exact Or.inr rfl) (pe_op op_cat (pv 6) (pe_lst (pa_cons (pe_tup (pa_cons (pe_un (KW.un_invO u_Blend (hr.mono (by decide)) pass0) (pv 1)) (pa_cons (pe_un (KW.un_invO u_Blend (hr.mono (by decide)) pass0) (pv 5)) pa_nil))) (pa_cons (pe_tup (pa_cons (pe_op (KR.op_binD bd_Blend_shl (hr.mono (by decide)) passL) (pv 1) (pv 4)) (pa_cons (pe_op (KR.op_binD bd_Blend_shl (hr.mono (by decide)) passL) (pv 5) (pv 4)) pa_nil))) (pa_cons (pe_tup (pa_cons (pe_op (KR.op_binD bd_Blend_shr (hr.mono (by decide)) passL) (pv 1) (pv 4)) (pa_cons (pe_op (KR.op_binD bd_Blend_shr (hr.mono (by decide)) passL) (pv 5) (pv 4)) pa_nil))) pa_nil))))))
 (pss_cons (ps_if (pt_cmpR (op_neD hr.units) (pe_lc (own := [("_law_told", 7), ("_law_behind", 8)]) (g := gTup K 2 (gCons (gName 7) (gCons (gName 8) gNil))) (by rfl) sc__law_behind_right.nd (pi_list (pv 6)) (blkOk_by (own := [("_law_told", 7), ("_law_behind", 8)]) (N := ["_law_pen_here", "_law_blend_here", "_law_wide", "_law_word_here", "_law_step", "_law_plain", "_law_pairs", "_law_told", "_law_behind"]) (sc := defScope s__law_behind_right) (by decide +kernel)) (fun _ _ _ _ _ => (pg_tup rfl (pgs_cons (pg_name (i := 7) sc__law_behind_right.nd rfl (by first | exact Or.inl rfl | exact Or.inr rfl)) (pgs_cons (pg_name (i := 8) sc__law_behind_right.nd rfl (by first | exact Or.inl rfl | exact Or.inr rfl)) pgs_nil)))) (fun _ _ _ _ _ => (pts_one (pt_cmpR (KO.op_neO ne_Blend (hr.mono (by decide))) (pv 7) (pe_methC c_Blend_then (pv 1) (hr.mono (by decide)) passL (pa_cons (pv 8) pa_nil)) (nomark _)))) (fun _ _ _ _ _ => pe_int)) (pe_lst pa_nil) (nomark _)) (pss_one (ps_ret pe_bl))
 pss_nil)
 (pss_cons (ps_if (PW.pt (pw_or (pt_cmpR (KO.op_neO ne_Blend (hr.mono (by decide))) (pe_un (KW.un_invO u_Blend (hr.mono (by decide)) pass0) (pe_un (KW.un_invO u_Blend (hr.mono (by decide)) pass0) (pv 1))) (pv 1) (nomark _)) (pw_or (pt_cmpR (KO.op_neO ne_Blend (hr.mono (by decide))) (pe_op (KR.op_binD bd_Blend_xor (hr.mono (by decide)) passL) (pe_op (KR.op_binD bd_Blend_xor (hr.mono (by decide)) passL) (pv 1) (pv 3)) (pv 3)) (pv 1) (nomark _)) (pw_or1 (pt_cmpR (KO.op_neO ne_Blend (hr.mono (by decide))) (pe_op (KR.op_binD bd_Blend_or (hr.mono (by decide)) passL) (pe_op (KR.op_binD bd_Blend_and (hr.mono (by decide)) passL) (pv 1) (pv 3)) (pv 3)) (KP.pe_cmethC cm_Blend_constant (pe_glob (v := .ref _) (by rfl) T.mg_Blend rfl) (hr.mono (by decide)) passL (pa_cons (pv 2) (pa_cons (pv 3) pa_nil))) (nomark _)))))) (pss_one (ps_ret pe_bl))
 pss_nil)
 (pss_one (ps_ret (pe_cmpR (KO.op_eqO eq_Blend (hr.mono (by decide))) (pe_op (KR.op_binD bd_Blend_shr (hr.mono (by decide)) passL) (pe_op (KR.op_binD bd_Blend_shl (hr.mono (by decide)) passL) (pv 1) (pv 4)) (pv 4)) (pe_op (KR.op_binD bd_Blend_and (hr.mono (by decide)) passL) (pv 1) (pe_op op_shr (pe_dget (hu_of hr) (pe_disp (pps_cons pe_int pe_int (pps_cons pe_int pe_int (pps_cons pe_int pe_int pps_nil))) (by rfl) (by rfl) (fun z => by cases z) (by decide)) (pv 2) (fun _ _ => rfl)) (pv 4))) (nomark _)))))))))))), at_start (σ := [some (.ref pen), some (.ref x), none, none, none, none, none, none, none]) rfl ?_⟩
    try dsimp only [cx_K]
    have cl := T.cl; have nw := T.n_width
    obtain ⟨dx0, _, _, _, hx0⟩ := d.at
    walk_at "rd"
    refine ⟨pen, pc, w, k + 1, rfl, w3, pn, fun n H1 hn pn1 kp1 => ?_⟩
    walk_at "rd"
    refine ⟨pen, pc, (w : Int) + 1, k, rfl, by omega, by omega, pn1, fun r1 H2 a1 b1 pn2 kp2 => ?_⟩
    obtain ⟨j, rfl⟩ : ∃ j : Nat, r1 = (j : Int) := ⟨r1.toNat, by omega⟩
    have hj : j ≤ w := by omega
    have kp := kp1.tr kp2
    replace d := d.sn (kp.sn pn)
    clear kp1 kp2 pn1 pn a1 b1 hx0
    walk_at "rd"
    refine ⟨_, rfl, fun y dy ny ndy nyd => ?_⟩
    refine make_d ny ndy w3 fun H3 B3 s3 => ?_
    have b : Bh C pen pc x y w k F [] H H3 := ⟨d.up s3, df_plain B3, pn2.up s3, kp.tr (Keep.same s3), fun t m => absurd m List.not_mem_nil⟩
    clear ny ndy nyd B3 s3 d pn2 kp
    walk_at "rd"
    refine df_l b.d (sp_and b.d hn fun H4 x1 d1 s4 => ?_)
    replace b := b.up s4
    walk_at "rd"
    refine df_l b.g (sp_and b.g hn fun H5 y1 g1 s5 => ?_)
    replace b := b.up s5
    walk_at "rd"
    refine ⟨by walk_at "sz", fun t1 n1 => ?_⟩
    replace b := b.pair (G := fun u => u &&& n) (d1.up s5) g1 n1
    generalize upd H5 t1 (.tup [.ref x1, .ref y1]) = H6 at b ⊢
    clear d1 g1 s4 s5 n1
    walk_at "rd"
    refine df_r b.d (sp_or b.d hn fun H7 x1 d1 s4 => ?_)
    replace b := b.up s4
    walk_at "rd"
    refine df_r b.g (sp_or b.g hn fun H8 y1 g1 s5 => ?_)
    replace b := b.up s5
    walk_at "rd"
    refine ⟨by walk_at "sz", fun t2 n1 => ?_⟩
    replace b := b.pair (G := fun u => u ||| n) (d1.up s5) g1 n1
    generalize upd H8 t2 (.tup [.ref x1, .ref y1]) = H9 at b ⊢
    clear d1 g1 s4 s5 n1
    walk_at "rd"
    refine df_l b.d (sp_xor b.d hn fun H10 x1 d1 s4 => ?_)
    replace b := b.up s4
    walk_at "rd"
    refine df_r b.g (sp_xor b.g hn fun H11 y1 g1 s5 => ?_)
    replace b := b.up s5
    walk_at "rd"
    refine ⟨by walk_at "sz", fun t3 n1 => ?_⟩
    replace b := b.pair (G := fun u => u ^^^ n) (d1.up s5) g1 n1
    generalize upd H11 t3 (.tup [.ref x1, .ref y1]) = H12 at b ⊢
    clear d1 g1 s4 s5 n1
    walk_at "rd"
    refine ⟨by walk_at "sz", fun l1 nl1 => ?_⟩
    replace b := b.up (same_new (o := .lst [.ref t1, .ref t2, .ref t3]) nl1)
    have hl1 : upd H12 l1 (.lst [.ref t1, .ref t2, .ref t3]) l1 = some (.lst [.ref t1, .ref t2, .ref t3]) := upd_same
    generalize upd H12 l1 (.lst [.ref t1, .ref t2, .ref t3]) = H13 at b hl1 ⊢
    clear nl1
    walk_at "rd"
    refine df_inv b.d fun H14 x1 d1 s4 => ?_
    replace b := b.up s4
    walk_at "rd"
    refine df_inv b.g fun H15 y1 g1 s5 => ?_
    replace b := b.up s5
    replace hl1 := s5 _ _ (s4 _ _ hl1)
    walk_at "rd"
    refine ⟨by walk_at "sz", fun t4 n1 => ?_⟩
    replace b := b.pair (G := fun u => u ^^^ KBL.onesN w) (d1.up s5) g1 n1
    replace hl1 := upd_new (o := .tup [.ref x1, .ref y1]) n1 hl1
    generalize upd H15 t4 (.tup [.ref x1, .ref y1]) = H16 at b hl1 ⊢
    clear d1 g1 s4 s5 n1
    walk_at "rd"
    refine df_l b.d (df_shl b.d hj fun H17 x1 d1 s4 => ?_)
    replace b := b.up s4
    walk_at "rd"
    refine df_l b.g (df_shl b.g hj fun H18 y1 g1 s5 => ?_)
    replace b := b.up s5
    replace hl1 := s5 _ _ (s4 _ _ hl1)
    walk_at "rd"
    refine ⟨by walk_at "sz", fun t5 n1 => ?_⟩
    replace b := b.pair (G := fun u => KBL.shN w u j) (d1.up s5) g1 n1
    replace hl1 := upd_new (o := .tup [.ref x1, .ref y1]) n1 hl1
    generalize upd H18 t5 (.tup [.ref x1, .ref y1]) = H19 at b hl1 ⊢
    clear d1 g1 s4 s5 n1
    walk_at "rd"
    refine df_l b.d (df_shr b.d hj fun H20 x1 d1 s4 => ?_)
    replace b := b.up s4
    walk_at "rd"
    refine df_l b.g (df_shr b.g hj fun H21 y1 g1 s5 => ?_)
    replace b := b.up s5
    replace hl1 := s5 _ _ (s4 _ _ hl1)
    walk_at "rd"
    refine ⟨by walk_at "sz", fun t6 n1 => ?_⟩
    replace b := b.pair (G := fun u => KBL.shN w u (0 - j)) (d1.up s5) g1 n1
    replace hl1 := upd_new (o := .tup [.ref x1, .ref y1]) n1 hl1
    generalize upd H21 t6 (.tup [.ref x1, .ref y1]) = H22 at b hl1 ⊢
    clear d1 g1 s4 s5 n1
    walk_at "rd"
    refine ⟨by walk_at "sz", fun l2 nl2 => ?_⟩
    refine ⟨l1, l2, _, _, rfl, rfl, upd_new nl2 hl1, upd_same, (by show 3 + 3 ≤ sizeLine; decide), fun l3 nl3 => ?_⟩
    replace b := (b.up (same_new (o := .lst [.ref t4, .ref t5, .ref t6]) nl2)).up (same_new (o := .lst ([.ref t1, .ref t2, .ref t3] ++ [.ref t4, .ref t5, .ref t6])) nl3)
    have hl3 : upd (upd H22 l2 (.lst [.ref t4, .ref t5, .ref t6])) l3 (.lst ([.ref t1, .ref t2, .ref t3] ++ [.ref t4, .ref t5, .ref t6])) l3 = some (.lst ([t1, t2, t3, t4, t5, t6].map V.ref)) := upd_same
    generalize upd (upd H22 l2 (.lst [.ref t4, .ref t5, .ref t6])) l3 (.lst ([.ref t1, .ref t2, .ref t3] ++ [.ref t4, .ref t5, .ref t6])) = H23 at b hl3 ⊢
    clear nl2 nl3 hl1
    walk_at "rd"
    refine ⟨l3, rfl, ⟨_, SqL.of hl3⟩, ?_⟩
    refine KD.lc_none (walk_list (xs := [t1, t2, t3, t4, t5, t6].map V.ref)) (fun H' s => SqL.of (s _ _ hl3)) (fun i x0 Ha Ha' B' N hi sa yy qB => ?_) (fun D Hb nD sb eD => ?_)
    · obtain ⟨rfl, yy⟩ := yy
      rw [List.getElem?_map] at yy
      obtain ⟨t0, ht0, rfl⟩ := Option.map_eq_some_iff.mp yy
      obtain ⟨a0, b0, G0, e0, e1, e2⟩ := (b.up sa).ps t0 (by
        have z := List.mem_of_getElem? ht0
        simp only [List.mem_cons, List.not_mem_nil, or_false] at z
        rcases z with rfl | rfl | rfl | rfl | rfl | rfl <;> simp)
      have dd := (b.up sa).d
      obtain ⟨dx2, _, _, _, hx2⟩ := dd.at
      refine r_gtup (SqT.of e0) rfl ?_
      walk_at "rd"
      refine ⟨rfl, ?_⟩
      walk_at "rd"
      refine ⟨x, dx2, _, rfl, hx2, rfl, ?_⟩
      walk_at "rd"
      refine df_then dd e2 fun Hc z d' s' => ?_
      refine df_ne (e1.up s') d' ?_
      walk_at "rd"
      exact qB _ s'
    walk_at "rd"
    refine ⟨by walk_at "sz", fun c2 n2 => ?_⟩
    refine r_neInts (ns := []) (ms := []) (SqL.of (upd_new n2 eD)) (SqL.of upd_same) ?_
    replace b := (b.up sb).up (same_new (o := .lst []) n2)
    generalize upd Hb c2 (.lst []) = H24 at b ⊢
    walk_at "rd"
    refine r_iteNF rfl ?_
    clear n2 eD sb hl3
    walk_at "rd"
    refine df_inv b.d fun H25 x1 d1 s1 => ?_
    replace b := b.up s1
    refine df_inv d1 fun H26 x2 d2 s2 => ?_
    replace b := b.up s2
    walk_at "rd"
    refine df_ne (d2.ext fun v _ => by rw [Nat.xor_assoc, Nat.xor_self, Nat.xor_zero]) b.d ?_
    clear d1 d2 s1 s2
    refine ⟨_, rfl, iteF ?_⟩
    walk_at "rd"
    refine df_l b.d (sp_xor b.d hn fun H27 x1 d1 s1 => ?_)
    replace b := b.up s1
    walk_at "rd"
    refine df_l d1 (sp_xor d1 hn fun H28 x2 d2 s2 => ?_)
    replace b := b.up s2
    walk_at "rd"
    refine df_ne (d2.ext fun v _ => by rw [Nat.xor_assoc, Nat.xor_self, Nat.xor_zero]) b.d ?_
    clear d1 d2 s1 s2
    refine ⟨_, rfl, iteF ?_⟩
    walk_at "rd"
    refine df_l b.d (sp_and b.d hn fun H29 x1 d1 s1 => ?_)
    replace b := b.up s1
    walk_at "rd"
    refine df_l d1 (sp_or d1 hn fun H30 x2 d2 s2 => ?_)
    replace b := b.up s2
    walk_at "rd"
    refine KP.r_cmeth ?_
    walk_at "rd"
    refine ⟨rfl, ?_⟩
    walk_at "rd"
    refine df_const w3 hn fun H31 x3 d3 s3 => ?_
    replace b := b.up s3
    refine df_ne ((d2.up s3).ext fun v _ => absorb _ _) d3 ?_
    clear d1 d2 d3 s1 s2 s3
    refine ⟨_, rfl, iteF ?_⟩
    walk_at "rd"
    refine df_l b.d (df_shl b.d hj fun H32 x1 d1 s1 => ?_)
    replace b := b.up s1
    walk_at "rd"
    refine df_l d1 (df_shr d1 hj fun H33 x2 d2 s2 => ?_)
    replace b := b.up s2
    walk_at "rd"
    refine r_wdict w3 (mono_var1 rfl) fun H34 s3 => ?_
    rw [top_is w3]
    replace b := b.up s3
    walk_at "rd"
    rw [Int.toNat_natCast, show (((KBL.onesN w : Nat) : Int) / 2 ^ j) = ((KBL.onesN w / 2 ^ j : Nat) : Int) by norm_cast]
    refine df_l b.d (sp_and b.d (Nat.lt_of_le_of_lt (Nat.div_le_self _ _) (KBL.ones_lt w)) fun H35 x3 d3 s4 => ?_)
    replace b := b.up s4
    have fl : ∀ v, v < 2 ^ w → F v < 2 ^ w := fun v hv => b.d.lt hv
    refine df_eq nf (((d2.up s3).up s4).ext fun v hv => there_back (fl v hv)) d3 ?_
    exact q _ b.pn b.kp
end
end K04


namespace K04
open PySem L2 KB KO KY KV KW
def optN : Option Nat → V
  | none => .non
  | some d => .int d
/-- what the blend of these numbers makes of a word -/
def app (w : Nat) (s : Int) (k f : Nat) (v : Nat) : Nat := f ^^^ (k &&& KBL.shN w v s)
theorem app_zero (w : Nat) (s : Int) (k f : Nat) : app w s k f 0 = f := by
  have e : KBL.shN w 0 s = 0 := by
    unfold KBL.shN
    split
    · exact Nat.zero_div _
    · rw [Nat.zero_mul, Nat.zero_mod]
  unfold app
  rw [e, Nat.and_zero, Nat.xor_zero]
theorem parting_zero {w : Nat} {F G : Nat → Nat} (h : F 0 ≠ G 0) : KBL.parting w F G = some 0 := by
  unfold KBL.parting KBL.parts
  rw [List.find?_cons, decide_eq_true h]
theorem parting_at {w : Nat} {F G : Nat → Nat} {i : Nat} (hw : i < w) (h0 : F 0 = G 0) (h : ∀ j, j < i → F (2 ^ j) = G (2 ^ j)) (hi : F (2 ^ i) ≠ G (2 ^ i)) : KBL.parting w F G = some (2 ^ i) := by
  unfold KBL.parting
  rw [List.find?_cons, show KBL.parts F G 0 = false from decide_eq_false (fun z => z h0)]
  unfold KBL.bits
  rw [List.find?_map, KBL.find_range w i hw (by simpa [KBL.parts] using hi) (fun j hj => by simp [KBL.parts, h j hj])]
  rfl
def spBP (C cW : Addr) : Sp := fun vs H Q E => ∃ (p p' : Addr) (w w' : Nat) (s s' : Int) (k k' f f' : Nat), vs = [.ref p, .ref p'] ∧ BlendAt C H p w s k f ∧ BlendAt C H p' w' s' k' f' ∧
  (w' ≠ w → ∀ d H', Same H H' → H' d = some (.xd [("value", .int w')]) → E (.ref cW) (some d) H') ∧ (w' = w → Q (optN (KBL.parting w (app w s k f) (app w s' k' f'))) H)

/-! ### _law_heard -/
structure TxtE (K : PySem.W.Frag) (mg : Str → Option Value) (CB : Addr) (c : Nat → Addr) : Prop extends Txt mg where
  mg_BitError : mg "BitError" = some (.ref CB)
  mg_InvalidWidth : mg "InvalidWidth" = some (.ref (c 0))
  mg_InvalidLane : mg "InvalidLane" = some (.ref (c 1))
  mg_InvalidWord : mg "InvalidWord" = some (.ref (c 2))
  mg_InvalidShift : mg "InvalidShift" = some (.ref (c 3))
  mg_InvalidKind : mg "InvalidKind" = some (.ref (c 4))
  mg_InvalidLetters : mg "InvalidLetters" = some (.ref (c 5))
def errNames : List Str := ["width", "lane", "word", "shift", "kind"]
def errName (i : Nat) : Str := errNames.getD i ""
structure ErrAt (K : PySem.W.Frag) (CB : Addr) (c : Nat → Addr) (i : Nat) : Prop where
  lt : i < 5
  bit : PySem.W.exmOne K (.ref (c i)) (.ref CB) = some true
  exc : ExcC K (c i)
  xf : XfC K (c i)
  nof : PySem.W.findIn K (.ref (c i)) "value" = some none
  kit : ∀ j, j < 6 → PySem.W.kitOne K (.ref (c i)) (.ref (c j)) = some (decide (i = j))
  ve : PySem.W.kitOne K (.ref (c i)) (.type "ValueError") = some true
def echo (K : PySem.W.Frag) (CB : Addr) (c : Nat → Addr) (Q : VK) : XK := fun cls d H' => ∃ (i : Nat) (dd : Addr) (v : V) (t : Dt), ErrAt K CB c i ∧ cls = .ref (c i) ∧ d = some dd ∧ H' dd = some (.xd [("value", v)]) ∧ OdAt H' v t ∧ Fit (errName i) t ∧ ∀ H2, Same H' H2 → Q (.str (pairD (errName i) t).shown) H2
def TH (K : PySem.W.Frag) (CB : Addr) (c : Nat → Addr) : (XK → Hp → VK → Prop) → Hp → VK → Prop := fun tl H Q =>
  tl (echo K CB c Q) H (fun v H1 => ([V.str "told", v] : List V).length ≤ sizeLine ∧ ∀ p, H1 p = none → rReprT [.ref p] (upd H1 p (.lst [.str "told", v])) Q)
theorem marks_one {i : Nat} (h : i < 5) : ([decide (i = 0), decide (i = 1), decide (i = 2), decide (i = 3), decide (i = 4), decide (i = 5)] : List Bool).count true = 1 := by
  match i, h with
  | 0, _ => decide
  | 1, _ => decide
  | 2, _ => decide
  | 3, _ => decide
  | 4, _ => decide
  | i + 5, h => exact absurd h (by omega)
theorem marks_ix {i : Nat} (h : i < 5) : ∃ z, ([.bl (decide (i = 0)), .bl (decide (i = 1)), .bl (decide (i = 2)), .bl (decide (i = 3)), .bl (decide (i = 4)), .bl (decide (i = 5))] : List V)[i]? = some z ∧ eqV z (.bl true) = true ∧
    ∀ (m : Nat) (z' : V), m < i → ([.bl (decide (i = 0)), .bl (decide (i = 1)), .bl (decide (i = 2)), .bl (decide (i = 3)), .bl (decide (i = 4)), .bl (decide (i = 5))] : List V)[m]? = some z' → eqV z' (.bl true) = false := by
  match i, h with
  | 0, _ => exact ⟨_, rfl, rfl, fun m z' hm e => absurd hm (by omega)⟩
  | 1, _ => exact ⟨_, rfl, rfl, fun m z' hm e => by match m, hm, e with | 0, _, e => cases e; rfl⟩
  | 2, _ => exact ⟨_, rfl, rfl, fun m z' hm e => by match m, hm, e with | 0, _, e => (cases e; rfl) | 1, _, e => (cases e; rfl)⟩
  | 3, _ => exact ⟨_, rfl, rfl, fun m z' hm e => by match m, hm, e with | 0, _, e => (cases e; rfl) | 1, _, e => (cases e; rfl) | 2, _, e => (cases e; rfl)⟩
  | 4, _ => exact ⟨_, rfl, rfl, fun m z' hm e => by match m, hm, e with | 0, _, e => (cases e; rfl) | 1, _, e => (cases e; rfl) | 2, _, e => (cases e; rfl) | 3, _, e => (cases e; rfl)⟩
  | i + 5, h => exact absurd h (by omega)
theorem name_at {i : Nat} (h : i < 5) : atI (errNames.map V.str) (i : Int) = some (.str (errName i)) := by
  match i, h with
  | 0, _ => rfl
  | 1, _ => rfl
  | 2, _ => rfl
  | 3, _ => rfl
  | 4, _ => rfl
  | i + 5, h => exact absurd h (by omega)
abbrev hX (X : Cx) (g : Addr) (cdg : Value) (s : Shared) (H : Hp) : Cx := cxOf C8.CX0 X.prog X.w X.K X.mg X.base ["_law_ask", "_law_caught", "error", "_law_marks"] "_law_heard" (defScope s__law_heard) g cdg X.A X.stack s H C8.E0


section
variable {P : Program} {w : World} {K : PySem.W.Frag} {mg : Str → Option Value} {base : Heap}
theorem ok_bp {f C aW cW cR : Addr} {fd : FuncData} (F : Fun K "blend_parting" "blend_parting" s_blend_parting f fd) (T : TxtB K mg C aW) (e_InvalidWidth : KX.ErrMk P w K mg base cW "InvalidWidth" "value") (call_Blend : KC.OwnC P w K mg base (L2.CX P w) 6 C ["self", "value"] (spBCall C cR)) : FnOk P w K mg base (L2.CX P w) 7 f fd ["b", "c"] (spBP C cW) := by
  refine F.okX sc_blend_parting (fun vs H Q E h => ?_) (fun cdv A outer s H vs Q E hr h => ?_)
  · obtain ⟨p, p', w, w', s, s', k, k', f, f', rfl, _⟩ := h
    rfl
  · obtain ⟨p, p', w, w', s, s', k, k', f, f', rfl, B1, B2, x, q⟩ := h
    obtain ⟨n1, dx, h1⟩ := id B1
    obtain ⟨n2, dx', h2⟩ := id B2
    refine ⟨_, (pss_cons (ps_if (pt_cmpR op_ne (pe_fld (pv 1) rfl) (pe_fld (pv 0) rfl) (nomark _)) (pss_one (ps_raise rfl KL.def_takes (KX.pmkC e_InvalidWidth (hr.mono (by decide)) (by rfl) (pa_cons (pe_fld (pv 1) rfl) pa_nil))))
 pss_nil)
 (pss_cons (ps_if (pt_cmpR op_ne (pe_fld (pv 0) rfl) (pe_fld (pv 1) rfl) (nomark _)) (pss_one (ps_ret pe_int))
 pss_nil)
 (pss_cons (ps_for (passes_of rfl) rfl (pi_range1 rfl T.z_range (pa_cons (pe_fld (pv 0) rfl) pa_nil)) (pg_name (i := 2) sc_blend_parting.nd rfl (by first | exact Or.inl rfl | exact Or.inr rfl))
 (pss_cons (ps_set (i := 3) sc_blend_parting.nd rfl (by first | exact Or.inl rfl | exact Or.inr rfl) (pe_op op_shl pe_int (pv 2)))
 (pss_one (ps_if (pt_cmpR op_ne (KC.pe_callO call_Blend (hr.mono (by decide)) (passes_call KL.def_takes fun _ _ _ _ h => h) (pv 0) (pa_cons (pv 3) pa_nil)) (KC.pe_callO call_Blend (hr.mono (by decide)) (passes_call KL.def_takes fun _ _ _ _ h => h) (pv 1) (pa_cons (pv 3) pa_nil)) (nomark _)) (pss_one (ps_ret (pv 3)))
 pss_nil))))
 (pss_one (ps_ret pe_non))))), at_start (σ := [some (.ref p), some (.ref p'), none, none]) rfl ?_⟩
    try dsimp only [KC.cx_KX]
    have cl := T.cl; have nw := T.n_width; have ns := T.n_shift; have nk := T.n_keep; have nf := T.n_flip
    walk_at "rd"
    refine r_iteN2 (fun hw => ?_) (fun hw => ?_)
    · walk_at "rd"
      refine KX.r_raiseO ?_ (fun Q1 Q2 hh => ?_)
      · refine ⟨_, rfl, p', C, dx', _, _, rfl, h2, cl, nw, fb_w, ?_⟩
        exact fun d H' sm hd => x (fun z => hw (by rw [z])) d H' sm hd
      · rintro ⟨v, e1, a, C', dx1, fs, v2, e2, e3, e4, e5, e6, e7⟩
        exact ⟨v, e1, a, C', dx1, fs, v2, e2, e3, e4, e5, e6, hh _ _ e7⟩
    have ew : w' = w := by have := V.int.inj hw; omega
    subst ew
    replace q := q rfl
    clear x
    walk_at "rd"
    refine r_iteN2 (fun hf => ?_) (fun hf => ?_)
    · walk_at "rd"
      rw [parting_zero (by rw [app_zero, app_zero]; exact fun z => hf (by rw [z]))] at q
      exact q
    have ef : f = f' := by have := V.int.inj hf; omega
    subst ef
    have wl := n1.w3.le
    walk_at "rd"
    refine ⟨by omega, by omega, ?_⟩
    rw [Int.toNat_natCast]
    refine forW (walk_range (lo := 0) (n := w')) (fun i σ H' => ∃ y2 y3, σ = [some (.ref p), some (.ref p'), y2, y3] ∧ H' = H ∧ ∀ j, j < i → app w' s k f (2 ^ j) = app w' s' k' f (2 ^ j)) ⟨_, _, rfl, rfl, fun j hj => absurd hj (by omega)⟩ (fun _ _ _ _ _ => trivial) ?_ ?_
    · rintro i x σ' _ H' hi ⟨y2, y3, rfl, rfl, ih⟩ ⟨rfl, rfl⟩
      have hp : 2 ^ i < 2 ^ w' := KBL.two_lt hi
      have e2 : ((1 : Int) * 2 ^ ((0 : Int) + (i : Int)).toNat) = ((2 ^ i : Nat) : Int) := by
        rw [Int.one_mul, show ((0 : Int) + (i : Int)).toNat = i by omega, Int.natCast_pow]
        rfl
      walk_at "rd"
      rw [e2]
      refine ⟨_, rfl, p, dx, _, rfl, h1, ?_⟩
      walk_at "rd"
      refine ⟨h1, p, w', s, k, f, _, .sc (.int ((2 ^ i : Nat) : Int)), rfl, B1, rfl, fun n hn en => ?_, fun z => by rw [isWord_nat hp] at z; cases z⟩
      obtain rfl : n = 2 ^ i := by cases en; omega
      refine ⟨_, rfl, p', dx', _, rfl, h2, ?_⟩
      walk_at "rd"
      refine ⟨h2, p', w', s', k', f, _, .sc (.int ((2 ^ i : Nat) : Int)), rfl, B2, rfl, fun n hn en => ?_, fun z => by rw [isWord_nat hp] at z; cases z⟩
      obtain rfl : n = 2 ^ i := by cases en; omega
      walk_at "rd"
      refine r_iteN2 (fun hne => ?_) (fun hne => ?_)
      · walk_at "rd"
        rw [parting_at hi (by rw [app_zero, app_zero]) ih (fun z => hne (by show V.int ((app w' s k f (2 ^ i) : Nat) : Int) = V.int ((app w' s' k' f (2 ^ i) : Nat) : Int); rw [z]))] at q
        exact q
      · walk_at "rd"
        refine ⟨_, _, rfl, rfl, fun j hj => ?_⟩
        by_cases ej : j < i
        · exact ih j ej
        · obtain rfl : j = i := by omega
          have := V.int.inj hne
          exact Int.ofNat_inj.mp this
    · rintro σ' H' ⟨y2, y3, rfl, rfl, ih⟩
      walk_at "rd"
      rw [KBL.parting_none.mpr ⟨by rw [app_zero, app_zero], ih⟩] at q
      exact q

end
open LamX in
theorem heard_gives {X : Cx} {CB g : Addr} {c : Nat → Addr} {k : Nat} {cdg : Value} {q : Str} (T : TxtE X.K X.mg CB c) (fr0 : KG.Free X.A) (room : Room (k + 1) X.A) :
    GivesTo X ["_law_ask", "_law_caught", "error", "_law_marks"] "_law_heard" (defScope s__law_heard) g cdg (defBody s__law_heard) "_law_ask" q (TH X.K CB c) := by
  intro f c' s H Q tl act hc h
  have hr : Room k (hX X g cdg s H).A := room.deeper _
  have fr : KG.Free (hX X g cdg s H).A := fr0
  refine ⟨_, pss_cons (ps_set (i := 1) sc__law_heard.nd rfl (by first | exact Or.inl rfl | exact Or.inr rfl) pe_non)
    (pss_cons (KX.ps_try_keep (X := (hX X g cdg s H).nox) (c := .ref CB) (i := 2)
      (tb := fun W D σ H => ∃ Ech : XK, (∀ cls d σ' H', σ'.length = 4 → Ech cls d H' → W cls d σ' H') ∧ σ[0]? = some (some (.ref f)) ∧ H c' = some (CodeO c' q) ∧ tl Ech H (fun v H1 => ([V.str "told", v] : List V).length ≤ sizeLine ∧ ∀ p, H1 p = none → rReprT [.ref p] (upd H1 p (.lst [.str "told", v])) D.rt))
      rfl rfl sc__law_heard.nd rfl rfl ⟨rfl, by decide, .inl T.mg_BitError⟩ L2.takes0 rfl (fun W pn xe tk _ => ?_) (fun a oe cls d pn _ _ => pss_one (ps_set (i := 1) sc__law_heard.nd rfl (by first | exact Or.inl rfl | exact Or.inr rfl) (pv 2))))
    (pss_cons (ps_set (i := 3) sc__law_heard.nd rfl (by first | exact Or.inl rfl | exact Or.inr rfl) (pe_lst (pa_cons (pe_callB KX.call_isH (by rfl) T.z_isinstance (by decide +kernel) (pa_cons (pv 1) (pa_cons (pe_glob (v := .ref _) (by rfl) T.mg_InvalidWidth rfl) pa_nil))) (pa_cons (pe_callB KX.call_isH (by rfl) T.z_isinstance (by decide +kernel) (pa_cons (pv 1) (pa_cons (pe_glob (v := .ref _) (by rfl) T.mg_InvalidLane rfl) pa_nil))) (pa_cons (pe_callB KX.call_isH (by rfl) T.z_isinstance (by decide +kernel) (pa_cons (pv 1) (pa_cons (pe_glob (v := .ref _) (by rfl) T.mg_InvalidWord rfl) pa_nil))) pa_nil)))))
 (pss_cons (ps_set (i := 3) sc__law_heard.nd rfl (by first | exact Or.inl rfl | exact Or.inr rfl) (pe_op op_cat (pv 3) (pe_lst (pa_cons (pe_callB KX.call_isH (by rfl) T.z_isinstance (by decide +kernel) (pa_cons (pv 1) (pa_cons (pe_glob (v := .ref _) (by rfl) T.mg_InvalidShift rfl) pa_nil))) (pa_cons (pe_callB KX.call_isH (by rfl) T.z_isinstance (by decide +kernel) (pa_cons (pv 1) (pa_cons (pe_glob (v := .ref _) (by rfl) T.mg_InvalidKind rfl) pa_nil))) pa_nil)))))
 (pss_cons (ps_expr (pe_bm PySem.F.plainAttrs_list PySem.F.slot_list_append PySem.F.type_list_append mt_append (pv 3) (pa_cons (pe_callB KX.call_isH (by rfl) T.z_isinstance (by decide +kernel) (pa_cons (pv 1) (pa_cons (pe_glob (v := .ref _) (by rfl) T.mg_InvalidLetters rfl) pa_nil))) pa_nil)))
 (pss_cons (ps_if (PW.pt (pw_or (pt_cmpR op_ne (pe_bm PySem.F.plainAttrs_list PySem.F.slot_list_count PySem.F.type_list_count KY.mt_countB (pv 3) (pa_cons pe_bl pa_nil)) pe_int (nomark _)) (pw_or1 (pt_not (pt_val (pe_callB KX.call_isH (by rfl) T.z_isinstance (by decide +kernel) (pa_cons (pv 1) (pa_cons (pe_bltn (v := .ty "ValueError") (by rfl) T.z_ValueError (by decide +kernel) rfl) pa_nil)))))))) (pss_one (ps_ret pe_str))
 pss_nil)
 (pss_cons (ps_if (pt_val (pe_ix ix_list (pv 3) pe_int (fun _ _ => rfl))) (pss_one (ps_ret (pe_callB (KY.call_reprT fr hr) (by rfl) T.z_repr (by decide +kernel) (pa_cons (pe_lst (pa_cons pe_str (pa_cons (KX.pe_xh (pv 1)) pa_nil))) pa_nil))))
 pss_nil)
 (pss_one (ps_ret (pe_callB (KY.call_reprT fr hr) (by rfl) T.z_repr (by decide +kernel) (pa_cons (pe_lst (pa_cons (pe_ix ix_list (pe_lst (pa_cons pe_str (pa_cons pe_str (pa_cons pe_str (pa_cons pe_str (pa_cons pe_str pa_nil)))))) (pe_bm PySem.F.plainAttrs_list PySem.F.slot_list_index PySem.F.type_list_index mt_index (pv 3) (pa_cons pe_bl pa_nil)) (fun _ _ => rfl)) (pa_cons (KX.pe_xh (pv 1)) pa_nil))) pa_nil)))))))))), ?_⟩
  · refine ⟨fun pins s' σ H' D I h' => ?_⟩
    obtain ⟨Ech, hW, h1, h2, h3⟩ := h'
    exact PSs.run (X := (hX X g cdg s H).tr pn xe) (pss_one (ps_ret (pe_callB (KY.call_reprT (X := (hX X g cdg s H).tr pn xe) fr hr) (by rfl) T.z_repr (by decide +kernel) (pa_cons (pe_lst (pa_cons pe_str (pa_cons (act (fun cls d σ H => σ.length = 4 → W cls d σ H) pn xe Ech _ _ (KL.takes_len tk) (fun cls d σ' H' e hl => hW cls d σ' H' hl e)) pa_nil))) pa_nil)))) pins s' σ H' D I ⟨h1, h2, h3⟩
  · refine at_start (σ := [some (.ref f), none, none, none]) rfl ?_
    walk_at "rd"
    have eK : (hX X g cdg s H).K = X.K := rfl
    have eK2 : (hX X g cdg s H).nox.K = X.K := rfl
    simp only [eK, eK2]
    refine ⟨echo X.K CB c Q, fun cls d σ' H' hl he => ?_, rfl, hc, h⟩
    obtain ⟨i, dd, v, t, ea, rfl, rfl, hd, od, fit, z⟩ := he
    refine ⟨true, ea.bit, fun _ a na => ?_, fun z => by cases z⟩
    obtain ⟨x0, x1, x2, x3, rfl⟩ : ∃ x0 x1 x2 x3, σ' = [x0, x1, x2, x3] := by
      match σ', hl with
      | [x0, x1, x2, x3], _ => exact ⟨_, _, _, _, rfl⟩
    have g1 : upd H' a (KX.exh a (.ref (c i)) (some dd)) a = some (KX.exh a (.ref (c i)) (some dd)) := upd_same
    have g2 : upd H' a (KX.exh a (.ref (c i)) (some dd)) dd = some (.xd [("value", v)]) := upd_new na hd
    have sa : Same H' (upd H' a (KX.exh a (.ref (c i)) (some dd))) := same_new na
    walk_at "rd"
    generalize upd H' a (KX.exh a (.ref (c i)) (some dd)) = H1 at g1 g2 sa ⊢
    refine ⟨a, c i, dd, _, _, _, _, rfl, g1, g2, ea.exc, .own _, ea.kit 0 (by decide), ?_⟩
    walk_at "rd"
    refine ⟨a, c i, dd, _, _, _, _, rfl, g1, g2, ea.exc, .own _, ea.kit 1 (by decide), ?_⟩
    walk_at "rd"
    refine ⟨a, c i, dd, _, _, _, _, rfl, g1, g2, ea.exc, .own _, ea.kit 2 (by decide), ?_⟩
    walk_at "rd"
    refine ⟨by walk_at "sz", fun c1 n1 => ?_⟩
    walk_at "rd"
    refine ⟨a, c i, dd, _, _, _, _, rfl, upd_new n1 g1, upd_new n1 g2, ea.exc, .own _, ea.kit 3 (by decide), ?_⟩
    walk_at "rd"
    refine ⟨a, c i, dd, _, _, _, _, rfl, upd_new n1 g1, upd_new n1 g2, ea.exc, .own _, ea.kit 4 (by decide), ?_⟩
    walk_at "rd"
    refine ⟨by walk_at "sz", fun c2 n2 => ?_⟩
    refine r_cat (upd_new n2 upd_same) upd_same (by walk_at "sz") fun c3 n3 => ?_
    dsimp only [List.cons_append, List.nil_append]
    generalize hH3 : upd (upd (upd H1 c1 _) c2 _) c3 _ = H3
    have s3 : Same H1 H3 := hH3 ▸ (((same_new n1).trans (same_new n2)).trans (same_new n3))
    have g3 : H3 c3 = some (.lst [.bl (decide (i = 0)), .bl (decide (i = 1)), .bl (decide (i = 2)), .bl (decide (i = 3)), .bl (decide (i = 4))]) := by rw [← hH3]; walk_at "hp"
    have f3 : H1 c3 = none := by
      cases e : H1 c3 with
      | none => rfl
      | some o => rw [upd_new n2 (upd_new n1 e)] at n3; cases n3
    clear hH3 n1 n2 n3
    walk_at "rd"
    refine ⟨a, c i, dd, _, _, _, _, rfl, s3 _ _ g1, s3 _ _ g2, ea.exc, .own _, ea.kit 5 (by decide), ?_⟩
    walk_at "rd"
    refine r_append g3 (by walk_at "sz") ?_
    dsimp only [List.cons_append, List.nil_append]
    generalize hH4 : upd H3 c3 _ = H4
    have s4 : Same H1 H4 := hH4 ▸ same_mut s3 f3
    have g4 : H4 c3 = some (.lst [.bl (decide (i = 0)), .bl (decide (i = 1)), .bl (decide (i = 2)), .bl (decide (i = 3)), .bl (decide (i = 4)), .bl (decide (i = 5))]) := by rw [← hH4]; exact upd_same
    clear hH4 g3 s3
    have n5 : decide (i = 5) = false := decide_eq_false (by have := ea.lt; omega)
    walk_at "rd"
    refine ⟨c3, [decide (i = 0), decide (i = 1), decide (i = 2), decide (i = 3), decide (i = 4), decide (i = 5)], true, rfl, rfl, SqL.of g4, ?_⟩
    rw [marks_one ea.lt]
    walk_at "rd"
    refine r_iteNF rfl ?_
    walk_at "rd"
    refine ⟨a, c i, dd, _, _, _, true, rfl, s4 _ _ g1, s4 _ _ g2, ea.exc, .ty _, ea.ve, ?_⟩
    walk_at "rd"
    rw [n5]
    walk_at "rd"
    refine ⟨by walk_at "sz", fun c5 e5 => ?_⟩
    walk_at "rd"
    obtain ⟨z0, y1, y2, y3⟩ := marks_ix ea.lt
    refine ⟨c3, _, .bl true, i, z0, rfl, rfl, SqL.of (upd_new e5 g4), rfl, rfl, y1, y2, y3, ?_⟩
    refine r_ixL (xs := errNames.map V.str) (SqL.of upd_same) (name_at ea.lt) ?_
    walk_at "rd"
    refine ⟨_, rfl, a, c i, dd, _, v, rfl, upd_new e5 (s4 _ _ g1), upd_new e5 (s4 _ _ g2), ea.xf, ea.nof, rfl, ?_⟩
    walk_at "rd"
    refine ⟨by walk_at "sz", fun c6 n6 => ?_⟩
    walk_at "rd"
    have sz := ((sa.trans s4).trans (same_new (o := .lst (errNames.map V.str)) e5)).trans (same_new (o := .lst [.str (errName i), v]) n6)
    exact ⟨c6, errName i, v, t, rfl, upd_same, od.same sz, fit, z _ sz⟩

end K04


namespace K04
open PySem L2 KB KO KY KV KW
abbrev qR : Str := "law.<locals>.<lambda>"
structure HeardC (K : PySem.W.Frag) (mg : Str → Option Value) : Prop where
  ex : ∃ (g : Addr) (oc kV doc pm cdg ct : Value) (od an : Option Addr) (osl : Array (Option Value)), mg "_law_heard" = some (.ref g) ∧ PySem.W.keepIn K (.ref g) = true ∧
    K.lookup g = some ⟨oc, od, .func (PySem.W.fnOf "_law_heard" "_law_heard" (defArgs s__law_heard) (defBody s__law_heard) (defScope s__law_heard) .none kV doc pm an cdg ct), osl⟩ ∧ PySem.W.codeIn K cdg "_law_heard" = true ∧
    L2.Binds K (PySem.W.fnOf "_law_heard" "_law_heard" (defArgs s__law_heard) (defBody s__law_heard) (defScope s__law_heard) .none kV doc pm an cdg ct) ["_law_ask"] []
theorem tabs_keep {T : List (Addr × Str)} {H H' : Hp} {q : Addr} {xs : List V} (t : LamX.Tabs T H) (k : Keep q H H') (hq : H q = some (.lst xs)) : LamX.Tabs T H' :=
  KL.tabs_to t fun b o e n => k b o e (fun z => by rw [z, hq] at e; exact n xs (Option.some.inj e).symm)
def spRight (PR : Addr) : Sp := fun vs H Q _ => ∃ (pen pc : Addr) (w k : Nat), vs = [.ref pen, .int w] ∧ W3 w ∧ PenC H pen pc (k + 60) ∧ LamX.Tabs [(PR, qR)] H ∧ ∀ H', PenC H' pen pc k → LamX.Tabs [(PR, qR)] H' → Q (.bl true) H'
theorem fitW {w : Nat} (w3 : W3 w) : Fit "width" (.sc (.int w)) := by
  have sl : 1000 ≤ sizeLine := by decide
  have h : ∀ n ∈ ([8, 16, 32] : List Nat), PyData.showable (Dt.sc (.int (n : Int))).d = true ∧ (pairD "width" (.sc (.int (n : Int)))).depth ≤ 60 ∧ (pairD "width" (.sc (.int (n : Int)))).shown.length ≤ 1000 := by decide +kernel
  obtain ⟨h1, h2, h3⟩ := h w (by rcases w3 with rfl | rfl | rfl <;> decide)
  exact ⟨h1, h2, Nat.le_trans h3 sl⟩
theorem blend_ext {C : Addr} {H H' : Hp} {p : Addr} {w : Nat} {s : Int} {k f : Nat} (h : BlendAt C H p w s k f) (e : LamX.ExtN H H') : BlendAt C H' p w s k f := by
  obtain ⟨n, dx, g⟩ := h
  exact ⟨n, dx, e _ _ g (fun ps z => by cases z)⟩
theorem pen_ext {H H' : Hp} {p c : Addr} {k : Nat} (h : PenC H p c k) (x : LamX.ExtN H H') : PenC H' p c k := by
  obtain ⟨ns, at_, left, h1, h2, h3, h4, h5⟩ := h
  exact ⟨ns, at_, left, x _ _ h1 (fun ps z => by cases z), x _ _ h2 (fun ps z => by cases z), h3, h4, h5⟩

/-- the lambda's reading -/
def lamT (C cW : Addr) : XK → TE := fun E => tMeth C "then" (spThen C cW) [] E (tVar 6) (tCons (tVar 15) tNil)
theorem heard_width {K : PySem.W.Frag} {CB C x y : Addr} {c : Nat → Addr} {H1 : Hp} {σ : L2.St} {w ow : Nat} {z z' : Int} {k b k' b' : Nat} {Q : VK} (EA : ErrAt K CB c 0) (h6 : σ[6]? = some (some (.ref x))) (h15 : σ[15]? = some (some (.ref y))) (B : BlendAt C H1 x w z k b) (B' : BlendAt C H1 y ow z' k' b') (ne : ow ≠ w)
    (q : ∀ H2, Same H1 H2 → Q (.str (pairD "width" (.sc (.int ow))).shown) H2) : TH K CB c (fun E H' Q' => lamT C (c 0) E σ H' Q') H1 Q := by
  unfold TH lamT
  obtain ⟨dx, h1⟩ := B.2
  refine ⟨_, h6, x, dx, _, rfl, h1, rfl, ?_⟩
  refine ⟨_, h15, ?_⟩
  refine ⟨x, y, w, ow, _, _, _, _, _, _, rfl, B, B', fun _ d H3 sm hd => ?_, fun e => absurd e ne⟩
  exact ⟨0, d, .int ow, .sc (.int ow), EA, rfl, rfl, hd, rfl, fitW B'.1.w3, fun H4 s4 => q H4 (sm.trans s4)⟩
/-- a blend's numbers, as they were asked for -/
structure Nb where
  s : Int
  m : Nat
  f : Nat
abbrev MB (C : Addr) (H : Hp) (x : Addr) (w : Nat) (n : Nb) : Prop := MadeAt C H x w n.s n.m n.f
def Nb.then (w : Nat) (a b : Nb) : Nb := ⟨thS w (KBL.shiftN w a.s a.m) (KBL.keepN w a.s a.m) (KBL.keepN w b.s b.m) (KBL.shiftN w b.s b.m), thK w (KBL.keepN w a.s a.m) (KBL.keepN w b.s b.m) (KBL.shiftN w b.s b.m), thF w a.f (KBL.keepN w b.s b.m) b.f (KBL.shiftN w b.s b.m)⟩
def Nb.ap (w : Nat) (n : Nb) : Nat → Nat := KBL.ap w n.s n.m n.f
/-- what stays -/
structure Lw (C PR pen pc l x y z : Addr) (w k : Nat) (a b c : Nb) (H : Hp) : Prop where
  pn : PenC H pen pc k
  tb : LamX.Tabs [(PR, qR)] H
  hl : H l = some (.lst [.ref x, .ref y, .ref z])
  nlp : l ≠ pen
  A : MB C H x w a
  B : MB C H y w b
  D : MB C H z w c
section
variable {C cW PR pen pc l x y z : Addr} {w k k' : Nat} {a b c : Nb} {H H' : Hp} {Q : VK} {E : XK}
theorem Lw.up (h : Lw C PR pen pc l x y z w k a b c H) (e : Same H H') : Lw C PR pen pc l x y z w k a b c H' := ⟨h.pn.up e, KL.tabs_same h.tb e, e _ _ h.hl, h.nlp, BlendAt.up h.A e, BlendAt.up h.B e, BlendAt.up h.D e⟩
theorem Lw.draw (h : Lw C PR pen pc l x y z w k a b c H) (kp : Keep pen H H') (pn : PenC H' pen pc k') : Lw C PR pen pc l x y z w k' a b c H' := by
  obtain ⟨xs0, hp0⟩ := h.pn.lst
  have sn := kp.sn h.pn
  exact ⟨pn, tabs_keep h.tb kp hp0, kp _ _ h.hl h.nlp, h.nlp, BlendAt.sn h.A sn, BlendAt.sn h.B sn, BlendAt.sn h.D sn⟩
theorem Lw.ext (h : Lw C PR pen pc l x y z w k a b c H) (e : LamX.ExtN H H') (tb : LamX.Tabs [(PR, qR)] H') : Lw C PR pen pc l x y z w k a b c H' := ⟨pen_ext h.pn e, tb, e _ _ h.hl (fun ps z => by cases z), h.nlp, blend_ext h.A e, blend_ext h.B e, blend_ext h.D e⟩
def Nb.text (w : Nat) (n : Nb) : Str := KBL.bText w (KBL.shiftN w n.s n.m) (KBL.keepN w n.s n.m : Nat) (n.f : Nat)
theorem Nb.text_len {n : Nb} (h : MB C H x w n) : (n.text w).length ≤ 7800 := by
  obtain ⟨b1, b2, b3, b4⟩ := numBits h.1
  have d1 := KBL.num_len b1
  have d2 := KBL.num_len b2
  have d3 := KBL.num_len b3
  have d4 := KBL.num_len b4
  have c0 : Str.empty.length = 0 := rfl
  have c1 : (Str.ofString "Blend(").length = 6 := by decide +kernel
  have c2 : (Str.ofString ", ").length = 2 := by decide +kernel
  have c3 : (Str.ofString ")").length = 1 := by decide +kernel
  simp only [Nb.text, KBL.bText, Str.length_append]
  omega
theorem Lw.repr {P : Program} {wd : World} (S : Lw C PR pen pc l x y z w k a b c H) (q : ∀ H2, Same H H2 → Q (.str (listText [a.text w, b.text w, c.text w])) H2) : KP.rReprL P wd C (spBRepr C) [.ref l] H Q := by
  have l1 := Nb.text_len S.A
  have l2 := Nb.text_len S.B
  have l3 := Nb.text_len S.D
  have sl : 30000 ≤ sizeLine := by decide
  refine ⟨l, _, [a.text w, b.text w, c.text w], rfl, S.hl, by simp, rfl, ?_, fun i v t e1 e2 => ?_, q⟩
  · have z := listText_len_le [a.text w, b.text w, c.text w]
    simp only [List.map_cons, List.map_nil, List.sum_cons, List.sum_nil, List.length_cons, List.length_nil] at z
    omega
  · have one : ∀ {u : Addr} {n : Nb}, MB C H u w n → KP.ItOk P wd C (spBRepr C) H (.ref u) (n.text w) := fun {u n} h => by
      obtain ⟨nm, dx, e⟩ := id h
      exact .inr ⟨u, dx, _, rfl, e, fun H' s Q' q' => ⟨u, w, _, _, n.f, rfl, BlendAt.up h s, q'⟩⟩
    have two : ∀ {j : Nat}, ¬ j < 3 → ([.ref x, .ref y, .ref z] : List V)[j]? = none := fun {j} hj => List.getElem?_eq_none (by simp only [List.length_cons, List.length_nil]; omega)
    by_cases hi : i < 3
    · have h3 : i = 0 ∨ i = 1 ∨ i = 2 := by omega
      rcases h3 with rfl | rfl | rfl
      · obtain rfl := Option.some.inj e1
        obtain rfl := Option.some.inj e2
        exact one S.A
      · obtain rfl := Option.some.inj e1
        obtain rfl := Option.some.inj e2
        exact one S.B
      · obtain rfl := Option.some.inj e1
        obtain rfl := Option.some.inj e2
        exact one S.D
    · rw [two hi] at e1
      cases e1
theorem Nb.df {n : Nb} (h : MB C H x w n) : DF C H x w (n.ap w) := ⟨n.s, n.m, n.f, h, fun _ _ => rfl⟩
theorem Nb.ap_then {n m : Nb} (hf : n.f < 2 ^ w) {v : Nat} (hv : v < 2 ^ w) : (n.then w m).ap w v = m.ap w (n.ap w v) := K04.ap_then hf hv
theorem mb_then {n m : Nb} (d : MB C H x w n) (g : MB C H y w m) (q : ∀ H' x', MB C H' x' w (n.then w m) → Same H H' → Q (.ref x') H') : spThen C cW [.ref x, .ref y] H Q E :=
  ⟨x, y, w, w, _, _, _, _, n.f, m.f, rfl, d, g, fun z => absurd rfl z, fun _ => ⟨th_range, fun H' x' R sm => q H' x' R sm⟩⟩
end
def gRev1 (us ws : List V) : List V := us ++ ws
def gRevC (us ws : List V) : List V := us ++ ws.reverse
/-- the promise without an end by an exception -/
def quiet (sp : Sp) : Sp := fun vs H Q _ => sp vs H Q E0
def spLaw (K : PySem.W.Frag) (cs : List (Addr × Addr)) : Sp := fun vs H Q _ => ∃ (a : Addr) (ns : List Int), vs = [.ref a] ∧ SqL K H a (ns.map V.int) ∧ ns.length ≤ 63 ∧ (∀ p ∈ cs, H p.2 = some (.tbl #[])) ∧ ∀ H', Q (.bl true) H'
end K04

namespace K04
open PySem L2 KB KO KY KV KW
theorem can_pairs : ∀ ps : List (Int × Int), PyData.canLayAll0 (ps.map dPair) = true
  | [] => rfl
  | p :: ps => by
    rw [List.map_cons]
    simp only [PyData.canLayAll0, dPair, PyData.canLay0, can_pairs ps, Bool.and_true, Bool.and_self]
theorem depth_pairs (ps : List (Int × Int)) : (dPairs ps).depth ≤ 64 := by
  have h : ∀ ps : List (Int × Int), PyData.depthAll (ps.map dPair) ≤ 2 := fun ps => by
    induction ps with
    | nil => simp [PyData.depthAll]
    | cons p ps ih =>
      rw [List.map_cons]
      simp only [PyData.depthAll, dPair, PyData.depth]
      omega
  have z := h ps
  simp only [dPairs, PyData.depth]
  omega
theorem pairs_shaped (ps : List (Int × Int)) : SeqAt.shaped (dPairs ps) = true := by
  have h1 : (dPairs ps).canLay0 = true := by
    simp only [dPairs, PyData.canLay0, can_pairs]
  unfold SeqAt.shaped
  rw [h1, decide_eq_true (depth_pairs ps)]
  rfl
theorem pairs_self (ps : List (Int × Int)) : PyData.eqv (dPairs ps) (dPairs ps) = true := PySem.SeqAt.eqv_refl _ (by simp only [dPairs, PyData.canLay0, can_pairs])
theorem pairs_nil (ps : List (Int × Int)) : PyData.eqv (dPairs ps) (.list []) = decide (ps = []) := by
  cases ps with
  | nil => rfl
  | cons p ps => rfl
theorem ne_pairs {K : PySem.W.Frag} {H : Hp} {l l' : Addr} {ys zs : List V} {ps : List (Int × Int)} {Q : VK} (e : H l = some (.lst ys)) (e' : H l' = some (.lst zs)) (pa : PairsAt H ys ps) (pb : PairsAt H zs ps) (q : Q (.bl false) H) : rNeD K (.ref l) (.ref l') H Q := by
  refine ⟨dPairs ps, dPairs ps, .lst (SqL.of e) pa.dp, .lst (SqL.of e') pb.dp, pairs_shaped _, pairs_shaped _, ?_⟩
  rw [pairs_self]
  exact q
theorem eq_nil_pairs {K : PySem.W.Frag} {H : Hp} {l l' : Addr} {ys : List V} {ps : List (Int × Int)} {Q : VK} (e : H l = some (.lst ys)) (e' : H l' = some (.lst [])) (pa : PairsAt H ys ps) (q : Q (.bl (decide (ps = []))) H) : rEqD K (.ref l) (.ref l') H Q := by
  refine ⟨dPairs ps, .list [], .lst (SqL.of e) pa.dp, .lst (SqL.of e') .nil, pairs_shaped _, by decide, ?_⟩
  rw [pairs_nil]
  exact q
theorem const_iff {w : Nat} {n m : Nb} : decide (joinP w (KBL.shiftN w n.s n.m) (KBL.keepN w n.s n.m) (KBL.shiftN w m.s m.m) (KBL.keepN w m.s m.m) = []) = decide (KBL.keepN w (n.then w m).s (n.then w m).m = 0) := by
  rw [join_th]
  exact decide_eq_decide.mpr srcs_zero
end K04


namespace K04
open PySem L2 KB KO KY KV KW

section
variable {P : Program} {wd : World} {K : PySem.W.Frag} {mg : Str → Option Value} {base : Heap}
theorem ok_law {f CB C aW cL PR : Addr} {c : Nat → Addr} {oc kV dc pm ct : Value} {od an : Option Addr} {sl : Array (Option Value)} (look : K.lookup f = some ⟨oc, od, .func (PySem.W.fnOf "law" "law" (defArgs s_law) (defBody s_law) (defScope s_law) .none kV dc pm an (.ref cL) ct), sl⟩) (code : PySem.W.codeIn K (.ref cL) "law" = true)
    (T : TxtB K mg C aW) (TE : TxtE K mg CB c) (EA0 : ErrAt K CB c 0) (HC : HeardC K mg) (TB : LamX.TabB base mg cL PR) (nf : PySem.W.notFirst K C (.ref C) = true)
    (c__law_draw : KB.Callee P wd K mg base CX0 1 "_law_draw" ["_law_pen_here", "_law_many"] spDraw) (c__law_word : KB.Callee P wd K mg base CX0 2 "_law_word" ["_law_pen_here", "_law_wide"] spWord) (c__law_pen : KB.Callee P wd K mg base CX0 1 "_law_pen" ["_law_script"] (spPen K))
    (c__law_blend : KB.Callee P wd K mg base CX0 9 "_law_blend" ["_law_pen_here", "_law_wide"] (spMk C)) (c__law_joined : KB.Callee P wd K mg base CX0 4 "_law_joined" ["_law_first", "_law_second"] (spJoin C)) (c__law_behind_right : KB.Callee P wd K mg base CX0 11 "_law_behind_right" ["_law_pen_here", "_law_blend_here"] (spBehind C))
    (c_blend_parting : KB.Callee P wd K mg base (L2.CX P wd) 7 "blend_parting" ["b", "c"] (spBP C (c 0)))
    (repr_Blend : KO.OwnM P wd K mg base 1 C "__repr__" ["self"] (spBRepr C)) (ne_Blend : KO.OwnNe P wd K mg base 1 C ["self", "other"] (spBEq K C)) (c_Blend_then : KB.CalleeM P wd K mg base (L2.CX P wd) 8 C "then" ["self", "c"] (spThen C (c 0)))
    (mk_Blend_then : KO.CalleeMK P wd K mg base 8 C "then" ["self", "c"] (quiet (spThen C (c 0))) 0 ["c"] gRev1) (call_Blend : KC.OwnC P wd K mg base (L2.CX P wd) 6 C ["self", "value"] (spBCall C (c 2))) (callK_Blend : KU.OwnCK P wd K mg base (L2.CX P wd) 6 C ["self", "value"] (spBCall C (c 2)) ["value"] gRev1)
    (g_Blend_sources : KU.CalleeGM P wd K mg base 1 C "sources" ["self"] (spSrc C)) (p_Blend_is_constant : KW.OwnP P wd K mg base 1 C "is_constant" ["self"] (spIsC C))
    (d1_Blend : KC.CalleeID P wd K mg base (L2.CX P wd) 6 C "Blend" ["self", "width", "shift", "keep", "flip"] (spBlend C (c 0) (c 3) (c 2)) [.int 0, .non, .int 0]) (d2_Blend : KC.CalleeID P wd K mg base (L2.CX P wd) 6 C "Blend" ["self", "width", "shift", "keep", "flip"] (spBlend C (c 0) (c 3) (c 2)) [.non, .int 0])
    (cm_Blend_constant : KP.CalleeC P wd K mg base (L2.CX P wd) 8 C "constant" (spConst C (c 0) (c 2))) (ck_Blend_constant_0_value_width : KU.CalleeCK P wd K mg base (L2.CX P wd) 8 C "constant" ["cls", "width", "value"] (spConst C (c 0) (c 2)) 1 ["value", "width"] gRevC) :
    KG.FnG P wd K mg base CX0 13 f (PySem.W.fnOf "law" "law" (defArgs s_law) (defBody s_law) (defScope s_law) .none kV dc pm an (.ref cL) ct) ["_law_script"] (spLaw K [(cL, PR)]) := by
  refine KG.fnG_body look code sc_law (fun vs H Q E h => ?_) (fun A outer s H vs Q E hr fr h => ?_)
  · obtain ⟨a, ns, rfl, _⟩ := h
    rfl
  · obtain ⟨a, ns, rfl, hS, hlen, htab, q⟩ := h
    obtain ⟨g, oc, kV, doc, pm, cdg, ct, od, an, osl, hmg, hkp, hlk, hcg, hbd⟩ := HC.ex
    have T0 : LamX.Tabs [(PR, qR)] H := fun p hp => by
      rw [List.mem_singleton.mp hp]
      exact LamX.TabS.nil (htab (cL, PR) (List.mem_singleton.mpr rfl))
    obtain ⟨t', drv, rdg⟩ : ∃ t', PSs (cxOf CX0 P wd K mg base ["_law_script", "_law_pen_here", "_law_wide", "_law_some", "_law_turn", "_law_kept", "_law_one", "_law_two", "_law_three", "_law_both", "_law_every", "_law_thing", "_law_plain", "_law_word_here", "_law_constant", "_law_other"] "law" (defScope s_law) f (.ref cL) A outer s H E).nox (defBody s_law) t' ∧ t' { nx := fun _ H' => Q .non H', rt := Q } (start ["_law_script", "_law_pen_here", "_law_wide", "_law_some", "_law_turn", "_law_kept", "_law_one", "_law_two", "_law_three", "_law_both", "_law_every", "_law_thing", "_law_plain", "_law_word_here", "_law_constant", "_law_other"] [.ref a]) H := by
      refine ⟨_, (pss_cons (ps_set (i := 1) sc_law.nd rfl (by first | exact Or.inl rfl | exact Or.inr rfl) (pe_callC c__law_pen (hr.mono (by decide)) (by rfl) pass0 (pa_cons (pv 0) pa_nil)))
 (pss_cons (ps_set (i := 2) sc_law.nd rfl (by first | exact Or.inl rfl | exact Or.inr rfl) (pe_ix ix_list (pe_lst (pa_cons pe_int (pa_cons pe_int (pa_cons pe_int pa_nil)))) (pe_callC c__law_draw (hr.mono (by decide)) (by rfl) pass0 (pa_cons (pv 1) (pa_cons pe_int pa_nil))) (fun _ _ => rfl)))
 (pss_cons (ps_setLc (i := 3) (own := [("_law_turn", 4)]) (g := gName 4) (tt := tYes) (by rfl) sc_law.nd rfl rfl (sw_true rfl rfl rfl (by decide +kernel)) (pi_range1 rfl T.z_range (pa_cons pe_int pa_nil)) (blkOk_by (own := [("_law_turn", 4)]) (N := ["_law_script", "_law_pen_here", "_law_wide", "_law_some", "_law_turn", "_law_kept", "_law_one", "_law_two", "_law_three", "_law_both", "_law_every", "_law_thing", "_law_plain", "_law_word_here", "_law_constant", "_law_other"]) (sc := defScope s_law) (by decide +kernel)) (fun _ _ _ _ _ => (pg_name (i := 4) sc_law.nd rfl (by first | exact Or.inl rfl | exact Or.inr rfl))) (fun _ _ _ _ _ => pts_nil) (fun _ _ _ _ _ => (pe_callC c__law_blend (hr.mono (by decide)) (by rfl) pass0 (pa_cons (pv 1) (pa_cons (pv 2) pa_nil)))))
 (pss_cons (ps_set (i := 5) sc_law.nd rfl (by first | exact Or.inl rfl | exact Or.inr rfl) (pe_callB (KP.call_reprL repr_Blend fr (hr.mono (by decide))) (by rfl) T.z_repr (by decide +kernel) (pa_cons (pv 3) pa_nil)))
 (pss_cons (ps_asg (pv 3) (pg_unl rfl (pgs_cons (pg_name (i := 6) sc_law.nd rfl (by first | exact Or.inl rfl | exact Or.inr rfl)) (pgs_cons (pg_name (i := 7) sc_law.nd rfl (by first | exact Or.inl rfl | exact Or.inr rfl)) (pgs_cons (pg_name (i := 8) sc_law.nd rfl (by first | exact Or.inl rfl | exact Or.inr rfl)) pgs_nil)))))
 (Evl.pss_cut (ps_set (i := 9) sc_law.nd rfl (by first | exact Or.inl rfl | exact Or.inr rfl) (pe_methC c_Blend_then (pv 6) (hr.mono (by decide)) passL (pa_cons (pv 7) pa_nil)))
 (Evl.pss_cut (ps_if (PW.pt (pw_or (pt_cmpR (KO.op_neO ne_Blend (hr.mono (by decide))) (pe_methC c_Blend_then (pv 9) (hr.mono (by decide)) passL (pa_cons (pv 8) pa_nil)) (pe_methC c_Blend_then (pv 6) (hr.mono (by decide)) passL (pa_cons (pe_methC c_Blend_then (pv 7) (hr.mono (by decide)) passL (pa_cons (pv 8) pa_nil)) pa_nil)) (nomark _)) (pw_or1 (pt_cmpR (KO.op_neO ne_Blend (hr.mono (by decide))) (KO.pe_methK0 mk_Blend_then (pv 6) (hr.mono (by decide)) (pk_cons (pv 7) pk_nil)) (pv 9) (nomark _))))) (pss_one (ps_ret pe_bl))
 pss_nil)
 (Evl.pss_cut (ps_set (i := 10) sc_law.nd rfl (by first | exact Or.inl rfl | exact Or.inr rfl) (pe_methC c_Blend_then (pv 9) (hr.mono (by decide)) passL (pa_cons (pv 8) pa_nil)))
 (Evl.pss_cut (ps_for PassesOwn.never rfl (pi_list (pe_op op_cat (pe_lst (pa_cons pe_int pa_nil)) (pe_lc (own := [("_law_turn", 4)]) (g := gName 4) (tt := tYes) (by rfl) sc_law.nd (pi_range1 rfl T.z_range (pa_cons pe_int pa_nil)) (blkOk_by (own := [("_law_turn", 4)]) (N := ["_law_script", "_law_pen_here", "_law_wide", "_law_some", "_law_turn", "_law_kept", "_law_one", "_law_two", "_law_three", "_law_both", "_law_every", "_law_thing", "_law_plain", "_law_word_here", "_law_constant", "_law_other"]) (sc := defScope s_law) (by decide +kernel)) (fun _ _ _ _ _ => (pg_name (i := 4) sc_law.nd rfl (by first | exact Or.inl rfl | exact Or.inr rfl))) (fun _ _ _ _ _ => pts_nil) (fun _ _ _ _ _ => (pe_callC c__law_word (hr.mono (by decide)) (by rfl) pass0 (pa_cons (pv 1) (pa_cons (pv 2) pa_nil))))))) (pg_name (i := 11) sc_law.nd rfl (by first | exact Or.inl rfl | exact Or.inr rfl))
 (pss_one (ps_if (PW.pt (pw_or (pt_cmpR op_ne (KC.pe_callO call_Blend (hr.mono (by decide)) passL (pv 9) (pa_cons (pv 11) pa_nil)) (KC.pe_callO call_Blend (hr.mono (by decide)) passL (pv 7) (pa_cons (KC.pe_callO call_Blend (hr.mono (by decide)) passL (pv 6) (pa_cons (pv 11) pa_nil)) pa_nil)) (nomark _)) (pw_or1 (pt_cmpR op_ne (KU.pe_callOK callK_Blend (hr.mono (by decide)) passL (pv 10) (pk_cons (pv 11) pk_nil)) (KC.pe_callO call_Blend (hr.mono (by decide)) passL (pv 8) (pa_cons (KC.pe_callO call_Blend (hr.mono (by decide)) passL (pv 7) (pa_cons (KC.pe_callO call_Blend (hr.mono (by decide)) passL (pv 6) (pa_cons (pv 11) pa_nil)) pa_nil)) pa_nil)) (nomark _))))) (pss_one (ps_ret pe_bl))
 pss_nil)))
 (Evl.pss_cut (ps_if (PW.pt (pw_or (pt_cmpR (op_neD hr.units) (KU.pe_listM g_Blend_sources (pv 9) (hr.mono (by decide)) (by rfl) T.z_list) (pe_callC c__law_joined (hr.mono (by decide)) (by rfl) pass0 (pa_cons (pv 6) (pa_cons (pv 7) pa_nil))) (nomark _)) (pw_or1 (pt_cmpR op_ne (pe_callB (KG.call_reprD fr hr) (by rfl) T.z_repr (by decide +kernel) (pa_cons (KW.pe_propO p_Blend_is_constant (pv 9) (hr.mono (by decide))) pa_nil)) (pe_callB (KG.call_reprD fr hr) (by rfl) T.z_repr (by decide +kernel) (pa_cons (pe_cmpR (op_eqD hr.units) (pe_callC c__law_joined (hr.mono (by decide)) (by rfl) pass0 (pa_cons (pv 6) (pa_cons (pv 7) pa_nil))) (pe_lst pa_nil) (nomark _)) pa_nil)) (nomark _))))) (pss_one (ps_ret pe_bl))
 pss_nil)
 (Evl.pss_cut (ps_par (i := 12) (j := 13) (by rfl) sc_law.nd rfl rfl (by decide) rfl rfl (pa_cons (KC.pe_makeD d1_Blend (hr.mono (by decide)) (by rfl) passL (pa_cons (pv 2) pa_nil)) (pa_cons (pe_callC c__law_word (hr.mono (by decide)) (by rfl) pass0 (pa_cons (pv 1) (pa_cons (pv 2) pa_nil))) pa_nil)) (by rfl))
 (Evl.pss_cut (ps_set (i := 14) sc_law.nd rfl (by first | exact Or.inl rfl | exact Or.inr rfl) (KU.pe_cmethK0 ck_Blend_constant_0_value_width (pe_glob (v := .ref _) (by rfl) T.mg_Blend rfl) (hr.mono (by decide)) passL (pk_cons (pv 13) (pk_cons (pv 2) pk_nil))))
 (Evl.pss_cut (ps_if (PW.pt (pw_or (pt_cmpR (KO.op_neO ne_Blend (hr.mono (by decide))) (pe_methC c_Blend_then (pv 12) (hr.mono (by decide)) passL (pa_cons (pv 6) pa_nil)) (pv 6) (nomark _)) (pw_or (pt_cmpR (KO.op_neO ne_Blend (hr.mono (by decide))) (pe_methC c_Blend_then (pv 6) (hr.mono (by decide)) passL (pa_cons (pv 12) pa_nil)) (pv 6) (nomark _)) (pw_or1 (pt_cmpR (KO.op_neO ne_Blend (hr.mono (by decide))) (pe_methC c_Blend_then (pv 6) (hr.mono (by decide)) passL (pa_cons (pv 14) pa_nil)) (pv 14) (nomark _)))))) (pss_one (ps_ret pe_bl))
 pss_nil)
 (Evl.pss_cut (ps_if (PW.pt (pw_or (pt_cmpR (KO.op_neO ne_Blend (hr.mono (by decide))) (pe_methC c_Blend_then (pv 14) (hr.mono (by decide)) passL (pa_cons (pv 6) pa_nil)) (KP.pe_cmethC cm_Blend_constant (pe_glob (v := .ref _) (by rfl) T.mg_Blend rfl) (hr.mono (by decide)) passL (pa_cons (pv 2) (pa_cons (KC.pe_callO call_Blend (hr.mono (by decide)) passL (pv 6) (pa_cons (pv 13) pa_nil)) pa_nil))) (nomark _)) (pw_or1 (pt_cmpR op_notN (pe_callC c_blend_parting (hr.mono (by decide)) (by rfl) passL (pa_cons (pv 9) (pa_cons (pe_methC c_Blend_then (pv 6) (hr.mono (by decide)) passL (pa_cons (pv 7) pa_nil)) pa_nil))) pe_non (nomark _))))) (pss_one (ps_ret pe_bl))
 pss_nil)
 (Evl.pss_cut (ps_if (PW.pt (pw_or (pt_not (pt_val (pe_callC c__law_behind_right (hr.mono (by decide)) (by rfl) pass0 (pa_cons (pv 1) (pa_cons (pv 6) pa_nil))))) (pw_or1 (pt_not (pt_val (pe_callC c__law_behind_right (hr.mono (by decide)) (by rfl) pass0 (pa_cons (pv 1) (pa_cons (pv 9) pa_nil)))))))) (pss_one (ps_ret pe_bl))
 pss_nil)
 (Evl.pss_cut (ps_set (i := 15) sc_law.nd rfl (by first | exact Or.inl rfl | exact Or.inr rfl) (KC.pe_makeD d2_Blend (hr.mono (by decide)) (by rfl) passL (pa_cons (pe_dget (hu_of hr) (pe_disp (pps_cons pe_int pe_int (pps_cons pe_int pe_int (pps_cons pe_int pe_int pps_nil))) (by rfl) (by rfl) (fun z => by cases z) (by decide)) (pv 2) (fun _ _ => rfl)) (pa_cons pe_int pa_nil))))
 (pss_one (ps_ret (pe_and (pe_cmpR op_eq (LamX.pe_lamcall (T := [(PR, qR)]) (TT := TH K CB c) (k := 10) (t := lamT C (c 0)) (by rfl) hmg hkp hlk hcg hbd sc__law_heard rfl (Or.inl rfl) (heard_gives (k := 0) TE fr (hr.mono (by decide))) TB rfl (List.mem_singleton.mpr rfl) (fun p hp _ => by rw [List.mem_singleton.mp hp]; rfl) (hr.mono (by decide)) (LamX.lamS_by (sc := defScope s_law) (by decide +kernel)) rfl (fun _ _ _ _ _ => rfl) (fun A1 o1 s1 H1 E1 f1 c1 hr1 => (pe_methC c_Blend_then (pv 6) (hr1.mono (by decide)) KL.lam_pass (pa_cons (pv 15) pa_nil)))) (pe_callB (KY.call_reprT fr hr) (by rfl) T.z_repr (by decide +kernel) (pa_cons (pe_lst (pa_cons pe_str (pa_cons (pe_fld (pv 15) rfl) pa_nil))) pa_nil)) (nomark _)) (pe_one (pe_cmpR op_eq (pe_callB (KP.call_reprL repr_Blend fr (hr.mono (by decide))) (by rfl) T.z_repr (by decide +kernel) (pa_cons (pv 3) pa_nil)) (pv 5) (nomark _)))))))))))))))))))))), at_start (σ := [some (.ref a), none, none, none, none, none, none, none, none, none, none, none, none, none, none, none]) rfl ?_⟩
      try dsimp only [cx_K]
      have cl := T.cl; have nw := T.n_width
      walk_at "rd"
      refine ⟨a, ns, rfl, hS, hlen, fun H1 pen pc s1 n1 n1c pn => ?_⟩
      have T1 := KL.tabs_same T0 s1
      replace pn := pn.mono (show 1000 ≤ _ by omega)
      clear T0 htab s1 n1 n1c
      walk_at "rd"
      refine ⟨by walk_at "sz", fun lw nlw => ?_⟩
      walk_at "rd"
      refine ⟨pen, pc, 3, 999, rfl, by decide, by decide, pn.up (same_new nlw), fun r H2 a2 b2 pn2 kp2 => ?_⟩
      have elw := kp2 _ _ upd_same (pn.ne nlw)
      obtain ⟨xs0, hp0⟩ := (pn.up (same_new (o := .lst [.int 8, .int 16, .int 32]) nlw)).lst
      replace T1 := tabs_keep (KL.tabs_same T1 (same_new nlw)) kp2 hp0
      obtain ⟨n, hn, at1⟩ := atI_map (xs := ([8, 16, 32] : List Int)) (g := V.int) a2 b2
      refine r_ixL (xs := ([8, 16, 32] : List Int).map V.int) (SqL.of elw) at1 ?_
      obtain ⟨w, w3, rfl⟩ : ∃ w : Nat, W3 w ∧ n = w := by
        simp only [List.mem_cons, List.not_mem_nil, or_false] at hn
        rcases hn with rfl | rfl | rfl
        · exact ⟨8, .inl rfl, rfl⟩
        · exact ⟨16, .inr (.inl rfl), rfl⟩
        · exact ⟨32, .inr (.inr rfl), rfl⟩
      have wl := w3.le
      clear hn at1 a2 b2 elw kp2 pn nlw hp0
      walk_at "rd"
      refine ⟨by decide, by decide, ?_⟩
      refine lc_pen (walk_range (lo := 0) (n := 3)) (pen := pen) (c := pc) (fun i v H => ∃ (x : Addr) (n : Nb), v = .ref x ∧ MB C H x w n) (fun i => 999 - 50 * i) (by decide) pn2 (fun i v H H' r s => ?_) (fun _ _ => trivial) (fun i x Ha Ha' N B hi kpa pna y qN => ?_) (fun D Hd zs nD kpd pnd eD ly hy => ?_)
      · obtain ⟨x, n, rfl, h⟩ := r
        exact ⟨x, n, rfl, BlendAt.sn h s⟩
      · obtain ⟨rfl, rfl⟩ := y
        walk_at "rd"
        refine ⟨rfl, KD.r_yes (iteT ?_)⟩
        walk_at "rd"
        refine ⟨pen, pc, w, 999 - 50 * (i + 1), rfl, w3, pna.mono (by omega), fun s0 m0 f0 x0 Hb Mb pnb kpb => ?_⟩
        exact qN _ _ kpb pnb ⟨x0, ⟨s0, m0, f0⟩, rfl, Mb⟩
      obtain ⟨x, y, z, na, nb, nc, rfl, MA, MB', MC⟩ : ∃ (x y z : Addr) (na nb nc : Nb), zs = [.ref x, .ref y, .ref z] ∧ MB C Hd x w na ∧ MB C Hd y w nb ∧ MB C Hd z w nc := by
        match zs, ly, hy with
        | [u0, u1, u2], _, hy =>
          obtain ⟨x, na, rfl, h0⟩ := hy 0 u0 rfl
          obtain ⟨y, nb, rfl, h1⟩ := hy 1 u1 rfl
          obtain ⟨z, nc, rfl, h2⟩ := hy 2 u2 rfl
          exact ⟨x, y, z, na, nb, nc, rfl, h0, h1, h2⟩
      obtain ⟨xs0, hp0⟩ := pn2.lst
      have S : Lw C PR pen pc D x y z w 800 na nb nc Hd := ⟨pnd.mono (by omega), tabs_keep T1 kpd hp0, eD, pn2.ne nD, MA, MB', MC⟩
      clear pnd T1 kpd hp0 eD pn2 MA MB' MC hy ly nD
      walk_at "rd"
      refine S.repr fun H3 s3 => ?_
      replace S := S.up s3
      clear s3
      walk_at "rd"
      refine ⟨D, _, rfl, SqL.of S.hl, rfl, ?_⟩
      walk_at "rd"
      refine ⟨fun σ' H' => ∃ e : Addr, σ' = [some (.ref a), some (.ref pen), some (.int w), some (.ref D), none, some (.str (listText [na.text w, nb.text w, nc.text w])), some (.ref x), some (.ref y), some (.ref z), some (.ref e), none, none, none, none, none, none] ∧ Lw C PR pen pc D x y z w 800 na nb nc H' ∧ MB C H' e w (na.then w nb), ?_, ?_⟩
      · obtain ⟨dx1, hx1⟩ := S.A.2
        walk_at "rd"
        refine ⟨x, dx1, _, rfl, hx1, rfl, ?_⟩
        walk_at "rd"
        refine mb_then S.A S.B fun H4 e ME s4 => ?_
        walk_at "rd"
        exact ⟨e, rfl, S.up s4, ME⟩
      clear S
      rintro _ H4 ⟨e, rfl, S, ME⟩
      have fa : na.f < 2 ^ w := S.A.1.fl
      have DE : ∀ {H : Hp}, MB C H e w (na.then w nb) → DF C H e w (fun v => nb.ap w (na.ap w v)) := fun {H} h => (Nb.df h).ext fun v hv => Nb.ap_then fa hv
      -- the brackets
      refine ⟨fun σ' H' => σ' = [some (.ref a), some (.ref pen), some (.int w), some (.ref D), none, some (.str (listText [na.text w, nb.text w, nc.text w])), some (.ref x), some (.ref y), some (.ref z), some (.ref e), none, none, none, none, none, none] ∧ Lw C PR pen pc D x y z w 800 na nb nc H' ∧ MB C H' e w (na.then w nb), ?_, ?_⟩
      · obtain ⟨dx1, hx1⟩ := ME.2
        walk_at "rd"
        refine ⟨e, dx1, _, rfl, hx1, rfl, ?_⟩
        walk_at "rd"
        refine df_then (DE ME) (Nb.df S.D) fun H5 u1 d1 s5 => ?_
        replace S := S.up s5
        replace ME : MB C H5 e w _ := BlendAt.up ME s5
        obtain ⟨dx1, hx1⟩ := S.A.2
        walk_at "rd"
        refine ⟨x, dx1, _, rfl, hx1, rfl, ?_⟩
        obtain ⟨dx2, hx2⟩ := S.B.2
        walk_at "rd"
        refine ⟨y, dx2, _, rfl, hx2, rfl, ?_⟩
        walk_at "rd"
        refine df_then (Nb.df S.B) (Nb.df S.D) fun H6 u2 d2 s6 => ?_
        replace S := S.up s6
        replace ME : MB C H6 e w _ := BlendAt.up ME s6
        walk_at "rd"
        refine df_then (Nb.df S.A) d2 fun H7 u3 d3 s7 => ?_
        replace S := S.up s7
        replace ME : MB C H7 e w _ := BlendAt.up ME s7
        refine df_ne ((d1.up s6).up s7) d3 ?_
        clear d1 d2 d3 s5 s6 s7 hx1 hx2
        refine ⟨_, rfl, iteF ?_⟩
        obtain ⟨dx1, hx1⟩ := S.A.2
        walk_at "rd"
        refine ⟨x, dx1, _, rfl, hx1, rfl, ?_⟩
        walk_at "rd"
        refine ⟨rfl, mb_then S.A S.B fun H8 u1 d1 s8 => ?_⟩
        walk_at "rd"
        refine df_ne ((Nb.df d1).ext fun v hv => Nb.ap_then fa hv) ((DE ME).up s8) ?_
        refine ⟨_, rfl, iteF ?_⟩
        walk_at "rd"
        exact ⟨rfl, S.up s8, BlendAt.up ME s8⟩
      clear S ME
      rintro _ H5 ⟨rfl, S, ME⟩
      refine ⟨fun σ' H' => ∃ ev : Addr, σ' = [some (.ref a), some (.ref pen), some (.int w), some (.ref D), none, some (.str (listText [na.text w, nb.text w, nc.text w])), some (.ref x), some (.ref y), some (.ref z), some (.ref e), some (.ref ev), none, none, none, none, none] ∧ Lw C PR pen pc D x y z w 800 na nb nc H' ∧ MB C H' e w (na.then w nb) ∧ DF C H' ev w (fun v => nc.ap w (nb.ap w (na.ap w v))), ?_, ?_⟩
      · obtain ⟨dx1, hx1⟩ := ME.2
        walk_at "rd"
        refine ⟨e, dx1, _, rfl, hx1, rfl, ?_⟩
        walk_at "rd"
        refine df_then (DE ME) (Nb.df S.D) fun H6 u1 d1 s5 => ?_
        walk_at "rd"
        exact ⟨u1, rfl, S.up s5, BlendAt.up ME s5, d1⟩
      clear S ME
      rintro _ H6 ⟨ev, rfl, S, ME, DV⟩
      -- the words
      refine ⟨fun σ' H' => ∃ y11, σ' = [some (.ref a), some (.ref pen), some (.int w), some (.ref D), none, some (.str (listText [na.text w, nb.text w, nc.text w])), some (.ref x), some (.ref y), some (.ref z), some (.ref e), some (.ref ev), y11, none, none, none, none] ∧ Lw C PR pen pc D x y z w 700 na nb nc H' ∧ MB C H' e w (na.then w nb), ?_, ?_⟩
      · walk_at "rd"
        refine ⟨by walk_at "sz", fun l0 nl0 => ?_⟩
        walk_at "rd"
        refine ⟨by decide, by decide, ?_⟩
        have s7 := same_new (o := .lst [.int 0]) nl0
        have n0 := S.pn.ne nl0
        replace S := S.up s7
        replace ME : MB C _ e w _ := BlendAt.up ME s7
        replace DV := DV.up s7
        have hl0 : upd H6 l0 (.lst [.int 0]) l0 = some (.lst [.int 0]) := upd_same
        generalize upd H6 l0 (.lst [.int 0]) = H7 at *
        clear s7 nl0
        refine lc_pen (walk_range (lo := 0) (n := 6)) (pen := pen) (c := pc) (fun i v _ => ∃ n : Nat, n < 2 ^ w ∧ v = .int (n : Int)) (fun i => 800 - 7 * i) (by decide) S.pn (fun i v H H' r _ => r) (fun _ _ => trivial) (fun i x Ha Ha' N B hi kpa pna y qN => ?_) (fun D2 Hd2 zs nD kpd pnd eD ly hy => ?_)
        · obtain ⟨rfl, rfl⟩ := y
          walk_at "rd"
          refine ⟨rfl, KD.r_yes (iteT ?_)⟩
          walk_at "rd"
          refine ⟨pen, pc, w, 800 - 7 * (i + 1), rfl, w3, pna.mono (by omega), fun n Hb hn pnb kpb => ?_⟩
          exact qN _ _ kpb pnb ⟨n, hn, rfl⟩
        obtain ⟨ws, rfl, lws, hws⟩ := choose_list (f := fun (n : Nat) => V.int (n : Int)) (Pr := fun _ n => n < 2 ^ w) zs hy
        have sn := kpd.sn S.pn
        have ME8 : MB C Hd2 e w (na.then w nb) := BlendAt.sn ME sn
        have DV8 := DV.sn sn
        have hl8 := kpd _ _ hl0 n0
        have S8 : Lw C PR pen pc D x y z w 700 na nb nc Hd2 := S.draw kpd (pnd.mono (by omega))
        clear S ME DV hl0 sn kpd pnd
        walk_at "rd"
        refine ⟨l0, D2, _, _, rfl, rfl, hl8, eD, Nat.le_of_lt (small1000' (by simp; omega)), fun l4 nl4 => ?_⟩
        have el : ([V.int 0] ++ ws.map fun (n : Nat) => V.int (n : Int)) = (0 :: ws).map fun (n : Nat) => V.int (n : Int) := rfl
        rw [el]
        have s9 := same_new (o := .lst ((0 :: ws).map fun (n : Nat) => V.int (n : Int))) nl4
        have hl4 : upd Hd2 l4 (.lst ((0 :: ws).map fun (n : Nat) => V.int (n : Int))) l4 = some (.lst ((0 :: ws).map fun (n : Nat) => V.int (n : Int))) := upd_same
        have vlt : ∀ n ∈ 0 :: ws, n < 2 ^ w := fun n m => by
          rcases List.mem_cons.mp m with rfl | m
          · exact Nat.two_pow_pos w
          · obtain ⟨i, hi, e⟩ := List.getElem_of_mem m
            exact hws i n (by rw [List.getElem?_eq_getElem hi, e])
        replace S8 := S8.up s9
        replace ME8 : MB C _ e w _ := BlendAt.up ME8 s9
        replace DV8 := DV8.up s9
        generalize upd Hd2 l4 (.lst ((0 :: ws).map fun (n : Nat) => V.int (n : Int))) = H9 at *
        clear s9 nl4 hl8 eD
        refine ⟨l4, rfl, ⟨_, SqL.of hl4⟩, ?_⟩
        refine forW (walk_list (xs := (0 :: ws).map fun (n : Nat) => V.int (n : Int))) (fun i σ' H' => ∃ y11, σ' = [some (.ref a), some (.ref pen), some (.int w), some (.ref D), none, some (.str (listText [na.text w, nb.text w, nc.text w])), some (.ref x), some (.ref y), some (.ref z), some (.ref e), some (.ref ev), y11, none, none, none, none] ∧ H' = H9) ⟨_, rfl, rfl⟩ (fun i σ' H' _ hh => by obtain ⟨_, _, rfl⟩ := hh; exact SqL.of hl4) ?_ ?_
        · rintro i xv σ' H10 H11 hi ⟨y11, rfl, rfl⟩ ⟨rfl, hx⟩
          rw [List.getElem?_map] at hx
          obtain ⟨n, hn, rfl⟩ := Option.map_eq_some_iff.mp hx
          have lt := vlt n (List.mem_of_getElem? hn)
          obtain ⟨dE, _, _, _, hE⟩ := (DE ME8).at
          obtain ⟨dV, _, _, _, hV⟩ := DV8.at
          obtain ⟨dA, hA⟩ := S8.A.2
          obtain ⟨dB, hB⟩ := S8.B.2
          obtain ⟨dD, hD⟩ := S8.D.2
          have la : na.ap w n < 2 ^ w := (Nb.df S8.A).lt lt
          have lb : nb.ap w (na.ap w n) < 2 ^ w := (Nb.df S8.B).lt la
          walk_at "rd"
          refine KC.r_callO ?_
          walk_at "rd"
          refine ⟨e, dE, _, rfl, hE, ?_⟩
          walk_at "rd"
          refine ⟨hE, df_call (DE ME8) lt ?_⟩
          refine KC.r_callO ?_
          walk_at "rd"
          refine ⟨y, dB, _, rfl, hB, ?_⟩
          walk_at "rd"
          refine KC.r_callO ?_
          walk_at "rd"
          refine ⟨x, dA, _, rfl, hA, ?_⟩
          walk_at "rd"
          refine ⟨hA, df_call (Nb.df S8.A) lt ?_⟩
          walk_at "rd"
          refine ⟨hB, df_call (Nb.df S8.B) la ?_⟩
          walk_at "rd"
          refine r_iteNF rfl ?_
          walk_at "rd"
          unfold KU.tCallOK
          walk_at "rd"
          refine ⟨ev, dV, _, rfl, hV, ?_⟩
          walk_at "rd"
          refine ⟨hV, rfl, df_call DV8 lt ?_⟩
          refine KC.r_callO ?_
          walk_at "rd"
          refine ⟨z, dD, _, rfl, hD, ?_⟩
          walk_at "rd"
          refine KC.r_callO ?_
          walk_at "rd"
          refine ⟨y, dB, _, rfl, hB, ?_⟩
          walk_at "rd"
          refine KC.r_callO ?_
          walk_at "rd"
          refine ⟨x, dA, _, rfl, hA, ?_⟩
          walk_at "rd"
          refine ⟨hA, df_call (Nb.df S8.A) lt ?_⟩
          walk_at "rd"
          refine ⟨hB, df_call (Nb.df S8.B) la ?_⟩
          walk_at "rd"
          refine ⟨hD, df_call (Nb.df S8.D) lb ?_⟩
          walk_at "rd"
          refine r_iteNF rfl ?_
          walk_at "rd"
          exact ⟨_, rfl, rfl⟩
        · rintro σ' H10 ⟨y11, rfl, rfl⟩
          walk_at "rd"
          exact ⟨_, rfl, S8, ME8⟩
      clear S ME DV
      rintro _ H7 ⟨y11, rfl, S, ME⟩
      -- the sources
      refine ⟨fun σ' H' => σ' = [some (.ref a), some (.ref pen), some (.int w), some (.ref D), none, some (.str (listText [na.text w, nb.text w, nc.text w])), some (.ref x), some (.ref y), some (.ref z), some (.ref e), some (.ref ev), y11, none, none, none, none] ∧ Lw C PR pen pc D x y z w 700 na nb nc H' ∧ MB C H' e w (na.then w nb), ?_, ?_⟩
      · obtain ⟨dE, hE⟩ := ME.2
        walk_at "rd"
        refine KU.r_listM ?_
        walk_at "rd"
        refine ⟨e, dE, _, rfl, hE, rfl, e, w, _, _, _, rfl, ME, fun zs H8 s8 pz p np => ?_⟩
        have s9 := s8.trans (same_new (o := .lst zs) np)
        replace S := S.up s9
        replace ME : MB C _ e w _ := BlendAt.up ME s9
        replace pz := pz.up (same_new (o := .lst zs) np)
        rw [KBL.srcsK_made] at pz
        have hp : upd H8 p (.lst zs) p = some (.lst zs) := upd_same
        generalize upd H8 p (.lst zs) = H9 at *
        clear s8 s9 np hE
        walk_at "rd"
        refine ⟨x, y, w, _, _, _, _, na.f, nb.f, rfl, S.A, S.B, fun l1 ys H10 s10 hl1 pj => ?_⟩
        replace S := S.up s10
        replace ME : MB C _ e w _ := BlendAt.up ME s10
        rw [join_th] at pj
        refine ne_pairs (s10 _ _ hp) hl1 (pz.up s10) pj ?_
        refine ⟨_, rfl, iteF ?_⟩
        clear s10 hp hl1 pj pz
        obtain ⟨dE, hE⟩ := ME.2
        walk_at "rd"
        refine KW.r_prop ?_
        walk_at "rd"
        refine ⟨e, dE, _, rfl, hE, e, w, _, _, _, rfl, ME, ?_⟩
        try walk_at "rd"
        refine r_reprS (.bl _) Sm.bool (by decide) (by decide) ?_
        walk_at "rd"
        refine ⟨x, y, w, _, _, _, _, na.f, nb.f, rfl, S.A, S.B, fun l1 ys H11 s11 hl1 pj => ?_⟩
        replace S := S.up s11
        replace ME : MB C _ e w _ := BlendAt.up ME s11
        walk_at "rd"
        refine ⟨by walk_at "sz", fun l2 nl2 => ?_⟩
        have s12 := same_new (o := .lst []) nl2
        refine eq_nil_pairs (s12 _ _ hl1) upd_same (pj.up s12) ?_
        rw [const_iff]
        try walk_at "rd"
        refine r_reprS (.bl _) Sm.bool (by decide) (by decide) ?_
        walk_at "rd"
        refine r_iteNF rfl ?_
        walk_at "rd"
        exact ⟨rfl, S.up s12, BlendAt.up ME s12⟩
      clear S ME
      rintro _ H8 ⟨rfl, S, ME⟩
      -- a plain one, a constant one
      refine ⟨fun σ' H' => ∃ (pl : Addr) (n : Nat), σ' = [some (.ref a), some (.ref pen), some (.int w), some (.ref D), none, some (.str (listText [na.text w, nb.text w, nc.text w])), some (.ref x), some (.ref y), some (.ref z), some (.ref e), some (.ref ev), y11, some (.ref pl), some (.int (n : Nat)), none, none] ∧ Lw C PR pen pc D x y z w 600 na nb nc H' ∧ MB C H' e w (na.then w nb) ∧ DF C H' pl w (fun v => v) ∧ n < 2 ^ w, ?_, ?_⟩
      · walk_at "rd"
        refine ⟨_, rfl, fun pl dy ny ndy nyd => ?_⟩
        refine make_d ny ndy w3 fun H9 B9 s9 => ?_
        walk_at "rd"
        refine ⟨pen, pc, w, 600, rfl, w3, (S.pn.up s9).mono (by omega), fun n H10 hn pn10 kp10 => ?_⟩
        have sn := kp10.sn (S.pn.up s9)
        walk_at "rd"
        exact ⟨_, _, rfl, pl, n, rfl, (S.up s9).draw kp10 pn10, BlendAt.sn (BlendAt.up ME s9) sn, (df_plain B9).sn sn, hn⟩
      clear S ME
      rintro _ H9 ⟨pl, n, rfl, S, ME, DP, hn⟩
      refine ⟨fun σ' H' => ∃ co : Addr, σ' = [some (.ref a), some (.ref pen), some (.int w), some (.ref D), none, some (.str (listText [na.text w, nb.text w, nc.text w])), some (.ref x), some (.ref y), some (.ref z), some (.ref e), some (.ref ev), y11, some (.ref pl), some (.int (n : Nat)), some (.ref co), none] ∧ Lw C PR pen pc D x y z w 600 na nb nc H' ∧ MB C H' e w (na.then w nb) ∧ DF C H' pl w (fun v => v) ∧ DF C H' co w (fun _ => n), ?_, ?_⟩
      · walk_at "rd"
        refine KU.r_cmethK ?_
        walk_at "rd"
        refine ⟨rfl, ?_⟩
        walk_at "rd"
        refine ⟨⟨rfl, rfl⟩, ?_⟩
        refine df_const w3 hn fun H10 co d10 s10 => ?_
        walk_at "rd"
        exact ⟨co, rfl, S.up s10, BlendAt.up ME s10, DP.up s10, d10⟩
      clear S ME DP
      rintro _ H10 ⟨co, rfl, S, ME, DP, DC⟩
      refine ⟨fun σ' H' => σ' = [some (.ref a), some (.ref pen), some (.int w), some (.ref D), none, some (.str (listText [na.text w, nb.text w, nc.text w])), some (.ref x), some (.ref y), some (.ref z), some (.ref e), some (.ref ev), y11, some (.ref pl), some (.int (n : Nat)), some (.ref co), none] ∧ Lw C PR pen pc D x y z w 600 na nb nc H' ∧ MB C H' e w (na.then w nb) ∧ DF C H' co w (fun _ => n), ?_, ?_⟩
      · obtain ⟨dq, _, _, _, hq⟩ := (DP).at
        walk_at "rd"
        refine ⟨pl, dq, _, rfl, hq, rfl, ?_⟩
        walk_at "rd"
        refine df_then (DP) (Nb.df S.A) fun H11 u1 d1 s1 => ?_
        clear hq
        replace S := S.up s1
        replace ME : MB C H11 e w _ := BlendAt.up ME s1
        replace DP := DP.up s1
        replace DC := DC.up s1
        walk_at "rd"
        refine df_ne (d1) (Nb.df S.A) ?_
        refine ⟨_, rfl, iteF ?_⟩
        obtain ⟨dq, _, _, _, hq⟩ := (Nb.df S.A).at
        walk_at "rd"
        refine ⟨x, dq, _, rfl, hq, rfl, ?_⟩
        walk_at "rd"
        refine df_then (Nb.df S.A) (DP) fun H12 u2 d2 s2 => ?_
        clear hq
        replace S := S.up s2
        replace ME : MB C H12 e w _ := BlendAt.up ME s2
        replace DP := DP.up s2
        replace DC := DC.up s2
        walk_at "rd"
        refine df_ne (d2) (Nb.df S.A) ?_
        refine ⟨_, rfl, iteF ?_⟩
        obtain ⟨dq, _, _, _, hq⟩ := (Nb.df S.A).at
        walk_at "rd"
        refine ⟨x, dq, _, rfl, hq, rfl, ?_⟩
        walk_at "rd"
        refine df_then (Nb.df S.A) (DC) fun H13 u3 d3 s3 => ?_
        clear hq
        replace S := S.up s3
        replace ME : MB C H13 e w _ := BlendAt.up ME s3
        replace DC := DC.up s3
        walk_at "rd"
        refine df_ne d3 DC ?_
        refine ⟨_, rfl, iteF ?_⟩
        walk_at "rd"
        exact ⟨rfl, S, ME, DC⟩
      clear S ME DP DC
      rintro _ H11 ⟨rfl, S, ME, DC⟩
      refine ⟨fun σ' H' => σ' = [some (.ref a), some (.ref pen), some (.int w), some (.ref D), none, some (.str (listText [na.text w, nb.text w, nc.text w])), some (.ref x), some (.ref y), some (.ref z), some (.ref e), some (.ref ev), y11, some (.ref pl), some (.int (n : Nat)), some (.ref co), none] ∧ Lw C PR pen pc D x y z w 600 na nb nc H' ∧ MB C H' e w (na.then w nb), ?_, ?_⟩
      · obtain ⟨dq, _, _, _, hq⟩ := (DC).at
        walk_at "rd"
        refine ⟨co, dq, _, rfl, hq, rfl, ?_⟩
        walk_at "rd"
        refine df_then (DC) (Nb.df S.A) fun H12 u1 d1 s1 => ?_
        clear hq
        replace S := S.up s1
        replace ME : MB C H12 e w _ := BlendAt.up ME s1
        have la : na.ap w n < 2 ^ w := (Nb.df S.A).lt hn
        walk_at "rd"
        refine KP.r_cmeth ?_
        walk_at "rd"
        refine ⟨rfl, ?_⟩
        walk_at "rd"
        obtain ⟨dA, hA⟩ := S.A.2
        refine KC.r_callO ?_
        walk_at "rd"
        refine ⟨x, dA, _, rfl, hA, ?_⟩
        walk_at "rd"
        refine ⟨hA, df_call (Nb.df S.A) hn ?_⟩
        walk_at "rd"
        refine df_const w3 la fun H13 u2 d2 s2 => ?_
        replace S := S.up s2
        replace ME : MB C H13 e w _ := BlendAt.up ME s2
        refine df_ne (d1.up s2) d2 ?_
        refine ⟨_, rfl, iteF ?_⟩
        clear hA d1 d2 s1 s2
        obtain ⟨dA, hA⟩ := S.A.2
        walk_at "rd"
        refine ⟨x, dA, _, rfl, hA, rfl, ?_⟩
        walk_at "rd"
        refine mb_then S.A S.B fun H14 u3 d3 s3 => ?_
        replace S := S.up s3
        replace ME : MB C H14 e w _ := BlendAt.up ME s3
        walk_at "rd"
        refine ⟨e, u3, w, w, _, _, _, _, _, _, rfl, ME, d3, fun z => absurd rfl z, fun _ => ?_⟩
        rw [KBL.parting_none.mpr ⟨rfl, fun _ _ => rfl⟩]
        walk_at "rd"
        exact ⟨rfl, S, ME⟩
      clear S ME DC
      rintro _ H12 ⟨rfl, S, ME⟩
      refine ⟨fun σ' H' => σ' = [some (.ref a), some (.ref pen), some (.int w), some (.ref D), none, some (.str (listText [na.text w, nb.text w, nc.text w])), some (.ref x), some (.ref y), some (.ref z), some (.ref e), some (.ref ev), y11, some (.ref pl), some (.int (n : Nat)), some (.ref co), none] ∧ Lw C PR pen pc D x y z w 500 na nb nc H', ?_, ?_⟩
      · walk_at "rd"
        refine ⟨pen, pc, x, w, 580, _, rfl, Nb.df S.A, S.pn.mono (by omega), fun H13 pn13 kp13 => ?_⟩
        have sn := kp13.sn S.pn
        replace S := S.draw kp13 pn13
        replace ME : MB C H13 e w _ := BlendAt.sn ME sn
        clear kp13 pn13 sn
        walk_at "rd"
        refine ⟨pen, pc, e, w, 500, _, rfl, Nb.df ME, S.pn.mono (by omega), fun H14 pn14 kp14 => ?_⟩
        walk_at "rd"
        exact ⟨rfl, S.draw kp14 pn14⟩
      clear S ME
      rintro _ H13 ⟨rfl, S⟩
      obtain ⟨ow, ow3, one, oe⟩ : ∃ v : Nat, W3 v ∧ v ≠ w ∧ pickW w 32 8 16 = (v : Int) := by
        rcases w3 with rfl | rfl | rfl
        · exact ⟨32, .inr (.inr rfl), by decide, rfl⟩
        · exact ⟨8, .inl rfl, by decide, rfl⟩
        · exact ⟨16, .inr (.inl rfl), by decide, rfl⟩
      refine ⟨fun σ' H' => ∃ o : Addr, σ' = [some (.ref a), some (.ref pen), some (.int w), some (.ref D), none, some (.str (listText [na.text w, nb.text w, nc.text w])), some (.ref x), some (.ref y), some (.ref z), some (.ref e), some (.ref ev), y11, some (.ref pl), some (.int (n : Nat)), some (.ref co), some (.ref o)] ∧ Lw C PR pen pc D x y z w 500 na nb nc H' ∧ MadeAt C H' o ow 1 (KBL.onesN ow) 0, ?_, ?_⟩
      · walk_at "rd"
        refine r_wdict w3 (mono_var1 rfl) fun H14 s14 => ?_
        rw [oe]
        walk_at "rd"
        refine fun o dy no ndy nyd => make_n no ndy ow3 (by omega) (by have := ow3.le; omega) (Nat.two_pow_pos ow) fun H15 B15 s15 => ?_
        walk_at "rd"
        exact ⟨o, rfl, (S.up s14).up s15, B15⟩
      clear S
      rintro _ H14 ⟨o, rfl, S, MO⟩
      walk_at "rd"
      refine ⟨S.tb, fun H15 e15 t15 => ?_⟩
      replace S := S.ext e15 t15
      replace MO : MadeAt C H15 o ow 1 (KBL.onesN ow) 0 := blend_ext MO e15
      refine heard_width EA0 rfl rfl S.A MO one fun H16 s16 => ?_
      replace S := S.up s16
      replace MO : MadeAt C H16 o ow 1 (KBL.onesN ow) 0 := BlendAt.up MO s16
      obtain ⟨dO, hO⟩ := MO.2
      walk_at "rd"
      refine ⟨by walk_at "sz", fun c2 n2 => ?_⟩
      have s17 := same_new (o := .lst [.str "width", .int ow]) n2
      walk_at "rd"
      refine ⟨c2, "width", .int ow, .sc (.int ow), rfl, upd_same, rfl, fitW ow3, ?_⟩
      generalize (pairD "width" (.sc (.int ow))).shown = zz
      walk_at "rd"
      rw [decide_eq_true rfl]
      refine iteT ?_
      walk_at "rd"
      refine (S.up s17).repr fun H18 s18 => ?_
      walk_at "rd"
      rw [decide_eq_true rfl]
      exact q _
    exact ⟨t', drv.nox, rdg⟩
end
end K04


namespace K04
open PySem L2 KB KO KY KV KW

section
variable {P : Program} {w : World} {K : PySem.W.Frag} {mg : Str → Option Value} {base : Heap}
theorem ok_beq {f C aW : Addr} {fd : FuncData} {k : Nat} (F : Fun K "__eq__" "Blend.__eq__" s_Blend___eq__ f fd) (T : TxtB K mg C aW) (ty : ∀ {H : Hp} {a dx : Addr} {fs : List (Str × V)}, H a = some (.ins C dx fs) → TyX K H (.ref a) (.ref C)) (isi : PySem.W.kitOne K (.ref C) (.ref C) = some true) : FnOk P w K mg base CX0 (k + 1) f fd ["self", "other"] (spBEq K C) := by
  refine F.ok sc_Blend___eq__ (fun vs H Q E h => ?_) (fun cdv A outer s H vs Q E hr h => ?_)
  · rcases h with ⟨p, p', w, w', s, s', k, k', f, f', rfl, _⟩ | ⟨p, y, w, s, k, f, T, rfl, _⟩ <;> rfl
  · rcases h with ⟨p, p', w, w', s, s', k, k', f, f', rfl, ⟨n1, dx, h1⟩, ⟨n2, dx', h2⟩, q⟩ | ⟨p, y, w, s, k, f, tn, rfl, ⟨n1, dx, h1⟩, tyx, kit, q⟩
    · refine ⟨_, (pss_one (ps_ret (pe_and (pe_callB call_isi (by rfl) T.z_isinstance (by decide +kernel) (pa_cons (pv 1) (pa_cons (pe_glob (v := .ref _) (by rfl) T.mg_Blend rfl) pa_nil))) (pe_and (pe_cmpR op_eq (pe_fld (pv 0) rfl) (pe_fld (pv 1) rfl) (nomark _)) (pe_and (pe_cmpR op_eq (pe_fld (pv 0) rfl) (pe_fld (pv 1) rfl) (nomark _)) (pe_and (pe_cmpR op_eq (pe_fld (pv 0) rfl) (pe_fld (pv 1) rfl) (nomark _)) (pe_one (pe_cmpR op_eq (pe_fld (pv 0) rfl) (pe_fld (pv 1) rfl) (nomark _))))))))), at_start (σ := [some (.ref p), some (.ref p')]) rfl ?_⟩
      dsimp only [cx_K]
      have cl := T.cl; have nw := T.n_width; have ns := T.n_shift; have nk := T.n_keep; have nf := T.n_flip
      walk_at "rd"
      refine ⟨_, _, _, _, true, rfl, .own C, ty h2, isi, ?_⟩
      walk_at "rd"
      refine r_iteI2 (fun a => ?_) (fun a => ?_)
      rotate_left
      · walk_at "rd"
        rw [decide_eq_false (fun z => a (by rw [z.1]))] at q
        exact q
      walk_at "rd"
      refine r_iteI2 (fun b => ?_) (fun b => ?_)
      rotate_left
      · walk_at "rd"
        rw [decide_eq_false (fun z => b z.2.1)] at q
        exact q
      walk_at "rd"
      refine r_iteI2 (fun c => ?_) (fun c => ?_)
      rotate_left
      · walk_at "rd"
        rw [decide_eq_false (fun z => c (by rw [z.2.2.1]))] at q
        exact q
      walk_at "rd"
      have e : decide (V.int (f : Int) = V.int (f' : Int)) = decide (w = w' ∧ s = s' ∧ k = k' ∧ f = f') := by
        by_cases z : f = f'
        · rw [decide_eq_true (by rw [z]), decide_eq_true ⟨by omega, b, by omega, z⟩]
        · rw [decide_eq_false (fun y => z (by have := V.int.inj y; omega)), decide_eq_false (fun y => z y.2.2.2)]
      rw [e]
      exact q
    · refine ⟨_, (pss_one (ps_ret (pe_and (pe_callB call_isi (by rfl) T.z_isinstance (by decide +kernel) (pa_cons (pv 1) (pa_cons (pe_glob (v := .ref _) (by rfl) T.mg_Blend rfl) pa_nil))) (pe_and (pe_cmpR op_eq (pe_fld (pv 0) rfl) (pe_fld (pv 1) rfl) (nomark _)) (pe_and (pe_cmpR op_eq (pe_fld (pv 0) rfl) (pe_fld (pv 1) rfl) (nomark _)) (pe_and (pe_cmpR op_eq (pe_fld (pv 0) rfl) (pe_fld (pv 1) rfl) (nomark _)) (pe_one (pe_cmpR op_eq (pe_fld (pv 0) rfl) (pe_fld (pv 1) rfl) (nomark _))))))))), at_start (σ := [some (.ref p), some y]) rfl ?_⟩
      dsimp only [cx_K]
      walk_at "rd"
      refine ⟨_, _, _, _, false, rfl, .own C, tyx, kit, ?_⟩
      walk_at "rd"
      exact q

theorem ok_quiet {k : Nat} {f : Addr} {fd : FuncData} {ps : List Str} {sp : Sp} (F : FnOk P w K mg base (L2.CX P w) k f fd ps sp) : FnOk P w K mg base CX0 k f fd ps (quiet sp) := by
  refine ⟨fun vs H Q E h => F.len vs H Q E0 h, fun A outer s H args us vs Q E hr he hb hv hs => ?_⟩
  refine codeAny_mono (F.run A outer s H args us vs Q E0 hr he hb hv hs) fun r s' z => ?_
  cases r with
  | error e =>
    obtain ⟨_, _, _, _, _, _, _, _, _, _, _, _, no⟩ := z
    exact no.elim
  | ok fl => cases fl <;> exact z
end
end K04


namespace K04
open PySem L2 KB KO KY KV KW
abbrev s_I0 : Stmt := inClass (top 2) 0
abbrev s_I2 : Stmt := inClass (top 4) 0
abbrev s_I3 : Stmt := inClass (top 5) 0
theorem sqK {K : PySem.W.Frag} {a : Addr} {dd : Option Addr} {its : Array Value} {n : Nat} {sl : Array (Option Value)} {xs : List V} (h : K.lookup a = some ⟨.type "tuple", dd, .seq its n, sl⟩) (hz : its.size ≤ 100) (r : Vals xs its.toList) : ∀ H, SqT K H a xs :=
  fun _ => .inr ⟨_, its, n, h, rfl, rfl, Nat.le_trans hz (by decide), r⟩
theorem free_only {sc : Scope} {x : Str} (h : ∀ z ∈ sc.names, z.2 = .free → z.1 = x) : ∀ y, sc.names.lookup y = some .free → y = x := fun y e => h (y, .free) (PySem.mem_of_lookup e) rfl
theorem code_of {K : PySem.W.Frag} {x : Str} {f c Pt : Addr} {o : Obj} {fd : FuncData} (h : PySem.W.tabIn K x = some (c, Pt)) (h1 : PySem.W.nsIn K mainGlobals x = some (some (.ref f))) (h2 : K.lookup f = some o) (h3 : o.data = .func fd) : fd.code = .ref c := by
  obtain ⟨o1, o2, o3, o4⟩ := o
  simp only at h3
  subst h3
  unfold PySem.W.tabIn at h
  rw [h1] at h
  dsimp only at h
  rw [h2] at h
  dsimp only at h
  split at h
  · rename_i c' hc
    split at h
    · split at h
      · cases h
        exact hc
      · cases h
    · cases h
  · cases h
theorem fnR_of {P : Program} {w : World} {K : PySem.W.Frag} {mg : Str → Option Value} {base : Heap} {CX : CXT} {k : Nat} {f : Addr} {fd : FuncData} {ps : List Str} {sp : Sp} (F : FnOk P w K mg base CX k f fd ps sp) (b : Binds K fd ps []) : FnR P w K mg base CX k f sp := fun A outer s H us vs Q E hr e0 r h => by
  have z := b s us (e0.mod.kin.keeps fun b o e => (e0.bs b o e).1) (by rw [List.append_nil, ← r.length]; exact F.len _ _ _ _ h)
  rw [List.append_nil] at z
  exact F.run A outer s H ⟨us, []⟩ us vs Q E hr e0 z r h
def errsOf (e0 e1 e2 e3 e4 e5 : Addr) : Nat → Addr
  | 0 => e0
  | 1 => e1
  | 2 => e2
  | 3 => e3
  | 4 => e4
  | _ => e5
theorem vals_rev : ∀ {xs : List V} {us : List Value}, Vals xs us → Vals xs.reverse us.reverse
  | _, _, .nil => .nil
  | _, _, .cons h t => by
    rw [List.reverse_cons, List.reverse_cons]
    exact (vals_rev t).append (.cons h .nil)
theorem all_mk {l : PySem.W.OpenLaw} {w : World} {K : PySem.W.Frag} {h : Heap} {mg : Str → Option Value} {fa C_Blend f_is_integer f_need_width f_ones f_is_word f_need_word f_shifted f_need_step f_Blend___init__ DT_Blend___init__ f_Blend_constant p_Blend_constant f_Blend_is_constant p_Blend_is_constant f_Blend___call__ f_Blend___and__ f_Blend___rand__ f_Blend___or__ f_Blend___ror__ f_Blend___xor__ f_Blend___rxor__ f_Blend___invert__ f_Blend___lshift__ f_Blend___rshift__ f_Blend___eq__ f_Blend___repr__ f_Blend_then f_Blend_sources f_moved f_blend_parting f__law_pen f__law_draw f__law_word f__law_heard f__law_blend f__law_joined f__law_behind_right f_law aW e0 e2 e3 cda0 ccell0 fI0 N_E0 cda2 ccell2 fI2 N_E2 cda3 ccell3 fI3 N_E3 N_B CB e1 e4 e5 cL PL : Addr} (X : K.In h) (G : h.Ns mainGlobals mg) (hfa : mg "law" = some (.ref fa))
    {od_is_integer an_is_integer : Option Addr} {sl_is_integer : Array (Option Value)} {oc_is_integer kV_is_integer dc_is_integer pm_is_integer cd_is_integer ct_is_integer : Value}
    {od_need_width an_need_width : Option Addr} {sl_need_width : Array (Option Value)} {oc_need_width kV_need_width dc_need_width pm_need_width cd_need_width ct_need_width : Value}
    {od_ones an_ones : Option Addr} {sl_ones : Array (Option Value)} {oc_ones kV_ones dc_ones pm_ones cd_ones ct_ones : Value}
    {od_is_word an_is_word : Option Addr} {sl_is_word : Array (Option Value)} {oc_is_word kV_is_word dc_is_word pm_is_word cd_is_word ct_is_word : Value}
    {od_need_word an_need_word : Option Addr} {sl_need_word : Array (Option Value)} {oc_need_word kV_need_word dc_need_word pm_need_word cd_need_word ct_need_word : Value}
    {od_shifted an_shifted : Option Addr} {sl_shifted : Array (Option Value)} {oc_shifted kV_shifted dc_shifted pm_shifted cd_shifted ct_shifted : Value}
    {od_need_step an_need_step : Option Addr} {sl_need_step : Array (Option Value)} {oc_need_step kV_need_step dc_need_step pm_need_step cd_need_step ct_need_step : Value}
    {od_Blend___init__ an_Blend___init__ : Option Addr} {sl_Blend___init__ : Array (Option Value)} {oc_Blend___init__ kV_Blend___init__ dc_Blend___init__ pm_Blend___init__ cd_Blend___init__ ct_Blend___init__ : Value}
    {dd_DT_Blend___init__ : Option Addr} {n_DT_Blend___init__ : Nat} {sl_DT_Blend___init__ : Array (Option Value)} {tk_Blend___init___0 tk_Blend___init___2 : Tok}
    {od_Blend_constant an_Blend_constant : Option Addr} {sl_Blend_constant : Array (Option Value)} {oc_Blend_constant kV_Blend_constant dc_Blend_constant pm_Blend_constant cd_Blend_constant ct_Blend_constant : Value}
    {rs_Blend_constant : List Value}
    {od_Blend_is_constant an_Blend_is_constant : Option Addr} {sl_Blend_is_constant : Array (Option Value)} {oc_Blend_is_constant kV_Blend_is_constant dc_Blend_is_constant pm_Blend_is_constant cd_Blend_is_constant ct_Blend_is_constant : Value}
    {rs_Blend_is_constant : List Value}
    {od_Blend___call__ an_Blend___call__ : Option Addr} {sl_Blend___call__ : Array (Option Value)} {oc_Blend___call__ kV_Blend___call__ dc_Blend___call__ pm_Blend___call__ cd_Blend___call__ ct_Blend___call__ : Value}
    {od_Blend___and__ an_Blend___and__ : Option Addr} {sl_Blend___and__ : Array (Option Value)} {oc_Blend___and__ kV_Blend___and__ dc_Blend___and__ pm_Blend___and__ cd_Blend___and__ ct_Blend___and__ : Value}
    {od_Blend___rand__ an_Blend___rand__ : Option Addr} {sl_Blend___rand__ : Array (Option Value)} {oc_Blend___rand__ kV_Blend___rand__ dc_Blend___rand__ pm_Blend___rand__ cd_Blend___rand__ ct_Blend___rand__ : Value}
    {od_Blend___or__ an_Blend___or__ : Option Addr} {sl_Blend___or__ : Array (Option Value)} {oc_Blend___or__ kV_Blend___or__ dc_Blend___or__ pm_Blend___or__ cd_Blend___or__ ct_Blend___or__ : Value}
    {od_Blend___ror__ an_Blend___ror__ : Option Addr} {sl_Blend___ror__ : Array (Option Value)} {oc_Blend___ror__ kV_Blend___ror__ dc_Blend___ror__ pm_Blend___ror__ cd_Blend___ror__ ct_Blend___ror__ : Value}
    {od_Blend___xor__ an_Blend___xor__ : Option Addr} {sl_Blend___xor__ : Array (Option Value)} {oc_Blend___xor__ kV_Blend___xor__ dc_Blend___xor__ pm_Blend___xor__ cd_Blend___xor__ ct_Blend___xor__ : Value}
    {od_Blend___rxor__ an_Blend___rxor__ : Option Addr} {sl_Blend___rxor__ : Array (Option Value)} {oc_Blend___rxor__ kV_Blend___rxor__ dc_Blend___rxor__ pm_Blend___rxor__ cd_Blend___rxor__ ct_Blend___rxor__ : Value}
    {od_Blend___invert__ an_Blend___invert__ : Option Addr} {sl_Blend___invert__ : Array (Option Value)} {oc_Blend___invert__ kV_Blend___invert__ dc_Blend___invert__ pm_Blend___invert__ cd_Blend___invert__ ct_Blend___invert__ : Value}
    {od_Blend___lshift__ an_Blend___lshift__ : Option Addr} {sl_Blend___lshift__ : Array (Option Value)} {oc_Blend___lshift__ kV_Blend___lshift__ dc_Blend___lshift__ pm_Blend___lshift__ cd_Blend___lshift__ ct_Blend___lshift__ : Value}
    {od_Blend___rshift__ an_Blend___rshift__ : Option Addr} {sl_Blend___rshift__ : Array (Option Value)} {oc_Blend___rshift__ kV_Blend___rshift__ dc_Blend___rshift__ pm_Blend___rshift__ cd_Blend___rshift__ ct_Blend___rshift__ : Value}
    {od_Blend___eq__ an_Blend___eq__ : Option Addr} {sl_Blend___eq__ : Array (Option Value)} {oc_Blend___eq__ kV_Blend___eq__ dc_Blend___eq__ pm_Blend___eq__ cd_Blend___eq__ ct_Blend___eq__ : Value}
    {od_Blend___repr__ an_Blend___repr__ : Option Addr} {sl_Blend___repr__ : Array (Option Value)} {oc_Blend___repr__ kV_Blend___repr__ dc_Blend___repr__ pm_Blend___repr__ cd_Blend___repr__ ct_Blend___repr__ : Value}
    {od_Blend_then an_Blend_then : Option Addr} {sl_Blend_then : Array (Option Value)} {oc_Blend_then kV_Blend_then dc_Blend_then pm_Blend_then cd_Blend_then ct_Blend_then : Value}
    {od_Blend_sources an_Blend_sources : Option Addr} {sl_Blend_sources : Array (Option Value)} {oc_Blend_sources kV_Blend_sources dc_Blend_sources pm_Blend_sources cd_Blend_sources ct_Blend_sources : Value}
    {od_moved an_moved : Option Addr} {sl_moved : Array (Option Value)} {oc_moved kV_moved dc_moved pm_moved cd_moved ct_moved : Value}
    {od_blend_parting an_blend_parting : Option Addr} {sl_blend_parting : Array (Option Value)} {oc_blend_parting kV_blend_parting dc_blend_parting pm_blend_parting cd_blend_parting ct_blend_parting : Value}
    {od__law_pen an__law_pen : Option Addr} {sl__law_pen : Array (Option Value)} {oc__law_pen kV__law_pen dc__law_pen pm__law_pen cd__law_pen ct__law_pen : Value}
    {od__law_draw an__law_draw : Option Addr} {sl__law_draw : Array (Option Value)} {oc__law_draw kV__law_draw dc__law_draw pm__law_draw cd__law_draw ct__law_draw : Value}
    {od__law_word an__law_word : Option Addr} {sl__law_word : Array (Option Value)} {oc__law_word kV__law_word dc__law_word pm__law_word cd__law_word ct__law_word : Value}
    {od__law_heard an__law_heard : Option Addr} {sl__law_heard : Array (Option Value)} {oc__law_heard kV__law_heard dc__law_heard pm__law_heard cd__law_heard ct__law_heard : Value}
    {od__law_blend an__law_blend : Option Addr} {sl__law_blend : Array (Option Value)} {oc__law_blend kV__law_blend dc__law_blend pm__law_blend cd__law_blend ct__law_blend : Value}
    {od__law_joined an__law_joined : Option Addr} {sl__law_joined : Array (Option Value)} {oc__law_joined kV__law_joined dc__law_joined pm__law_joined cd__law_joined ct__law_joined : Value}
    {od__law_behind_right an__law_behind_right : Option Addr} {sl__law_behind_right : Array (Option Value)} {oc__law_behind_right kV__law_behind_right dc__law_behind_right pm__law_behind_right cd__law_behind_right ct__law_behind_right : Value}
    {od_law an_law : Option Addr} {sl_law : Array (Option Value)} {oc_law kV_law dc_law pm_law cd_law ct_law : Value}
    {dd_W : Option Addr} {n_W : Nat} {sl_W : Array (Option Value)} {tw0 tw1 tw2 : Tok}
    {o_E0 : Obj} {nm_E0 qq_E0 : Str} {bs_E0 bm_E0 : List Value} {sn_E0 : List Str} {sub_E0 : List Value} {ab_E0 : Bool} {col_E0 : Option Bool} {dd_E0 : Option Addr} {k0_E0 k1_E0 k2_E0 k3_E0 k5_E0 : Option Value} {od_I0 an_I0 cdd_I0 cld_I0 : Option Addr} {sl_I0 ccs_I0 csl_I0 : Array (Option Value)} {oc_I0 kV_I0 dc_I0 pm_I0 ct_I0 ccl_I0 cl_I0 : Value} {vs_I0 : Array Value} {file_I0 : Str} {tf_I0 : Tok}
    {o_E2 : Obj} {nm_E2 qq_E2 : Str} {bs_E2 bm_E2 : List Value} {sn_E2 : List Str} {sub_E2 : List Value} {ab_E2 : Bool} {col_E2 : Option Bool} {dd_E2 : Option Addr} {k0_E2 k1_E2 k2_E2 k3_E2 k5_E2 : Option Value} {od_I2 an_I2 cdd_I2 cld_I2 : Option Addr} {sl_I2 ccs_I2 csl_I2 : Array (Option Value)} {oc_I2 kV_I2 dc_I2 pm_I2 ct_I2 ccl_I2 cl_I2 : Value} {vs_I2 : Array Value} {file_I2 : Str} {tf_I2 : Tok}
    {o_E3 : Obj} {nm_E3 qq_E3 : Str} {bs_E3 bm_E3 : List Value} {sn_E3 : List Str} {sub_E3 : List Value} {ab_E3 : Bool} {col_E3 : Option Bool} {dd_E3 : Option Addr} {k0_E3 k1_E3 k2_E3 k3_E3 k5_E3 : Option Value} {od_I3 an_I3 cdd_I3 cld_I3 : Option Addr} {sl_I3 ccs_I3 csl_I3 : Array (Option Value)} {oc_I3 kV_I3 dc_I3 pm_I3 ct_I3 ccl_I3 cl_I3 : Value} {vs_I3 : Array Value} {file_I3 : Str} {tf_I3 : Tok}
    {rc_shl : Option Value}
    {rc_shr : Option Value}
    {nm_K qq_K : Str} {bs_K : List Value} {hd_K : Bool} {sn_K : List Str} {sub_K : List Value} {ab_K : Bool} {col_K : Option Bool} {dd_K : Option Addr} {k0_K k1_K k2_K k3_K k5_K : Option Value} {nid_K : String}
    {o_K o_N : Obj}
    (aC_Blend : PySem.W.nsIn K mainGlobals "Blend" = some (some (.ref C_Blend)))
    (pg_Blend : PySem.W.plainGet K C_Blend Str.empty = true)
    (hd_Blend : PySem.W.hasDictIn K C_Blend = true)
    (po_Blend : PySem.W.plainOver K C_Blend = true)
    (sa_Blend : PySem.W.findIn K (.ref C_Blend) "__setattr__" = some (some (.builtin "object.__setattr__")))
    (mk_Blend : PySem.W.makesIn K C_Blend = true)
    (kc_Blend : PySem.W.keepIn K (.ref C_Blend) = true)
    (n_Blend_width : PySem.W.findIn K (.ref C_Blend) "width" = some none)
    (n_Blend_shift : PySem.W.findIn K (.ref C_Blend) "shift" = some none)
    (n_Blend_keep : PySem.W.findIn K (.ref C_Blend) "keep" = some none)
    (n_Blend_flip : PySem.W.findIn K (.ref C_Blend) "flip" = some none)
    (a_is_integer : PySem.W.nsIn K mainGlobals "is_integer" = some (some (.ref f_is_integer)))
    (l_is_integer : K.lookup f_is_integer = some ⟨oc_is_integer, od_is_integer, .func (PySem.W.fnOf "is_integer" "is_integer" (defArgs s_is_integer) (defBody s_is_integer) (defScope s_is_integer) .none kV_is_integer dc_is_integer pm_is_integer an_is_integer cd_is_integer ct_is_integer), sl_is_integer⟩)
    (c_is_integer : PySem.W.codeIn K cd_is_integer "is_integer" = true)
    (k_is_integer : PySem.W.keepIn K (.ref f_is_integer) = true)
    (a_need_width : PySem.W.nsIn K mainGlobals "need_width" = some (some (.ref f_need_width)))
    (l_need_width : K.lookup f_need_width = some ⟨oc_need_width, od_need_width, .func (PySem.W.fnOf "need_width" "need_width" (defArgs s_need_width) (defBody s_need_width) (defScope s_need_width) .none kV_need_width dc_need_width pm_need_width an_need_width cd_need_width ct_need_width), sl_need_width⟩)
    (c_need_width : PySem.W.codeIn K cd_need_width "need_width" = true)
    (k_need_width : PySem.W.keepIn K (.ref f_need_width) = true)
    (a_ones : PySem.W.nsIn K mainGlobals "ones" = some (some (.ref f_ones)))
    (l_ones : K.lookup f_ones = some ⟨oc_ones, od_ones, .func (PySem.W.fnOf "ones" "ones" (defArgs s_ones) (defBody s_ones) (defScope s_ones) .none kV_ones dc_ones pm_ones an_ones cd_ones ct_ones), sl_ones⟩)
    (c_ones : PySem.W.codeIn K cd_ones "ones" = true)
    (k_ones : PySem.W.keepIn K (.ref f_ones) = true)
    (a_is_word : PySem.W.nsIn K mainGlobals "is_word" = some (some (.ref f_is_word)))
    (l_is_word : K.lookup f_is_word = some ⟨oc_is_word, od_is_word, .func (PySem.W.fnOf "is_word" "is_word" (defArgs s_is_word) (defBody s_is_word) (defScope s_is_word) .none kV_is_word dc_is_word pm_is_word an_is_word cd_is_word ct_is_word), sl_is_word⟩)
    (c_is_word : PySem.W.codeIn K cd_is_word "is_word" = true)
    (k_is_word : PySem.W.keepIn K (.ref f_is_word) = true)
    (a_need_word : PySem.W.nsIn K mainGlobals "need_word" = some (some (.ref f_need_word)))
    (l_need_word : K.lookup f_need_word = some ⟨oc_need_word, od_need_word, .func (PySem.W.fnOf "need_word" "need_word" (defArgs s_need_word) (defBody s_need_word) (defScope s_need_word) .none kV_need_word dc_need_word pm_need_word an_need_word cd_need_word ct_need_word), sl_need_word⟩)
    (c_need_word : PySem.W.codeIn K cd_need_word "need_word" = true)
    (k_need_word : PySem.W.keepIn K (.ref f_need_word) = true)
    (a_shifted : PySem.W.nsIn K mainGlobals "shifted" = some (some (.ref f_shifted)))
    (l_shifted : K.lookup f_shifted = some ⟨oc_shifted, od_shifted, .func (PySem.W.fnOf "shifted" "shifted" (defArgs s_shifted) (defBody s_shifted) (defScope s_shifted) .none kV_shifted dc_shifted pm_shifted an_shifted cd_shifted ct_shifted), sl_shifted⟩)
    (c_shifted : PySem.W.codeIn K cd_shifted "shifted" = true)
    (k_shifted : PySem.W.keepIn K (.ref f_shifted) = true)
    (a_need_step : PySem.W.nsIn K mainGlobals "need_step" = some (some (.ref f_need_step)))
    (l_need_step : K.lookup f_need_step = some ⟨oc_need_step, od_need_step, .func (PySem.W.fnOf "need_step" "need_step" (defArgs s_need_step) (defBody s_need_step) (defScope s_need_step) .none kV_need_step dc_need_step pm_need_step an_need_step cd_need_step ct_need_step), sl_need_step⟩)
    (c_need_step : PySem.W.codeIn K cd_need_step "need_step" = true)
    (k_need_step : PySem.W.keepIn K (.ref f_need_step) = true)
    (a_Blend___init__ : PySem.W.findIn K (.ref C_Blend) "__init__" = some (some (.ref f_Blend___init__)))
    (i_Blend___init__ : PySem.W.isFn K (.ref f_Blend___init__) = true)
    (l_Blend___init__ : K.lookup f_Blend___init__ = some ⟨oc_Blend___init__, od_Blend___init__, .func (PySem.W.fnOf "__init__" "Blend.__init__" (defArgs s_Blend___init__) (defBody s_Blend___init__) (defScope s_Blend___init__) (.ref DT_Blend___init__) kV_Blend___init__ dc_Blend___init__ pm_Blend___init__ an_Blend___init__ cd_Blend___init__ ct_Blend___init__), sl_Blend___init__⟩)
    (dt_Blend___init__ : K.lookup DT_Blend___init__ = some ⟨.type "tuple", dd_DT_Blend___init__, .seq #[.int 0 tk_Blend___init___0, .none, .int 0 tk_Blend___init___2] n_DT_Blend___init__, sl_DT_Blend___init__⟩)
    (c_Blend___init__ : PySem.W.codeIn K cd_Blend___init__ "Blend.__init__" = true)
    (k_Blend___init__ : PySem.W.keepIn K (.ref f_Blend___init__) = true)
    (a_Blend_constant : PySem.W.findCls K (.ref C_Blend) (.type "type") "constant" = some (.get (.builtin "classmethod.__get__") (.ref p_Blend_constant) .none (.ref C_Blend)))
    (rc_Blend_constant : PySem.W.recIn K p_Blend_constant "classmethod" = some (.ref f_Blend_constant :: rs_Blend_constant))
    (fi_Blend_constant : PySem.W.fnIn K f_Blend_constant = true)
    (l_Blend_constant : K.lookup f_Blend_constant = some ⟨oc_Blend_constant, od_Blend_constant, .func (PySem.W.fnOf "constant" "Blend.constant" (defArgs s_Blend_constant) (defBody s_Blend_constant) (defScope s_Blend_constant) .none kV_Blend_constant dc_Blend_constant pm_Blend_constant an_Blend_constant cd_Blend_constant ct_Blend_constant), sl_Blend_constant⟩)
    (c_Blend_constant : PySem.W.codeIn K cd_Blend_constant "Blend.constant" = true)
    (k_Blend_constant : PySem.W.keepIn K (.ref f_Blend_constant) = true)
    (pa_Blend_is_constant : PySem.W.findIn K (.ref C_Blend) "is_constant" = some (some (.ref p_Blend_is_constant)))
    (pb_Blend_is_constant : PySem.W.specialIn K (.ref p_Blend_is_constant) "__get__" = some (some (.builtin "property.__get__")))
    (pc_Blend_is_constant : PySem.W.takesIn K (.ref p_Blend_is_constant) = some true)
    (pd_Blend_is_constant : PySem.W.recIn K p_Blend_is_constant "property" = some (.ref f_Blend_is_constant :: rs_Blend_is_constant))
    (l_Blend_is_constant : K.lookup f_Blend_is_constant = some ⟨oc_Blend_is_constant, od_Blend_is_constant, .func (PySem.W.fnOf "is_constant" "Blend.is_constant" (defArgs s_Blend_is_constant) (defBody s_Blend_is_constant) (defScope s_Blend_is_constant) .none kV_Blend_is_constant dc_Blend_is_constant pm_Blend_is_constant an_Blend_is_constant cd_Blend_is_constant ct_Blend_is_constant), sl_Blend_is_constant⟩)
    (c_Blend_is_constant : PySem.W.codeIn K cd_Blend_is_constant "Blend.is_constant" = true)
    (k_Blend_is_constant : PySem.W.keepIn K (.ref f_Blend_is_constant) = true)
    (a_Blend___call__ : PySem.W.findIn K (.ref C_Blend) "__call__" = some (some (.ref f_Blend___call__)))
    (i_Blend___call__ : PySem.W.isFn K (.ref f_Blend___call__) = true)
    (l_Blend___call__ : K.lookup f_Blend___call__ = some ⟨oc_Blend___call__, od_Blend___call__, .func (PySem.W.fnOf "__call__" "Blend.__call__" (defArgs s_Blend___call__) (defBody s_Blend___call__) (defScope s_Blend___call__) .none kV_Blend___call__ dc_Blend___call__ pm_Blend___call__ an_Blend___call__ cd_Blend___call__ ct_Blend___call__), sl_Blend___call__⟩)
    (c_Blend___call__ : PySem.W.codeIn K cd_Blend___call__ "Blend.__call__" = true)
    (k_Blend___call__ : PySem.W.keepIn K (.ref f_Blend___call__) = true)
    (a_Blend___and__ : PySem.W.findIn K (.ref C_Blend) "__and__" = some (some (.ref f_Blend___and__)))
    (i_Blend___and__ : PySem.W.isFn K (.ref f_Blend___and__) = true)
    (l_Blend___and__ : K.lookup f_Blend___and__ = some ⟨oc_Blend___and__, od_Blend___and__, .func (PySem.W.fnOf "__and__" "Blend.__and__" (defArgs s_Blend___and__) (defBody s_Blend___and__) (defScope s_Blend___and__) .none kV_Blend___and__ dc_Blend___and__ pm_Blend___and__ an_Blend___and__ cd_Blend___and__ ct_Blend___and__), sl_Blend___and__⟩)
    (c_Blend___and__ : PySem.W.codeIn K cd_Blend___and__ "Blend.__and__" = true)
    (k_Blend___and__ : PySem.W.keepIn K (.ref f_Blend___and__) = true)
    (a_Blend___rand__ : PySem.W.findIn K (.ref C_Blend) "__rand__" = some (some (.ref f_Blend___rand__)))
    (i_Blend___rand__ : PySem.W.isFn K (.ref f_Blend___rand__) = true)
    (l_Blend___rand__ : K.lookup f_Blend___rand__ = some ⟨oc_Blend___rand__, od_Blend___rand__, .func (PySem.W.fnOf "__rand__" "Blend.__rand__" (defArgs s_Blend___rand__) (defBody s_Blend___rand__) (defScope s_Blend___rand__) .none kV_Blend___rand__ dc_Blend___rand__ pm_Blend___rand__ an_Blend___rand__ cd_Blend___rand__ ct_Blend___rand__), sl_Blend___rand__⟩)
    (c_Blend___rand__ : PySem.W.codeIn K cd_Blend___rand__ "Blend.__rand__" = true)
    (k_Blend___rand__ : PySem.W.keepIn K (.ref f_Blend___rand__) = true)
    (a_Blend___or__ : PySem.W.findIn K (.ref C_Blend) "__or__" = some (some (.ref f_Blend___or__)))
    (i_Blend___or__ : PySem.W.isFn K (.ref f_Blend___or__) = true)
    (l_Blend___or__ : K.lookup f_Blend___or__ = some ⟨oc_Blend___or__, od_Blend___or__, .func (PySem.W.fnOf "__or__" "Blend.__or__" (defArgs s_Blend___or__) (defBody s_Blend___or__) (defScope s_Blend___or__) .none kV_Blend___or__ dc_Blend___or__ pm_Blend___or__ an_Blend___or__ cd_Blend___or__ ct_Blend___or__), sl_Blend___or__⟩)
    (c_Blend___or__ : PySem.W.codeIn K cd_Blend___or__ "Blend.__or__" = true)
    (k_Blend___or__ : PySem.W.keepIn K (.ref f_Blend___or__) = true)
    (a_Blend___ror__ : PySem.W.findIn K (.ref C_Blend) "__ror__" = some (some (.ref f_Blend___ror__)))
    (i_Blend___ror__ : PySem.W.isFn K (.ref f_Blend___ror__) = true)
    (l_Blend___ror__ : K.lookup f_Blend___ror__ = some ⟨oc_Blend___ror__, od_Blend___ror__, .func (PySem.W.fnOf "__ror__" "Blend.__ror__" (defArgs s_Blend___ror__) (defBody s_Blend___ror__) (defScope s_Blend___ror__) .none kV_Blend___ror__ dc_Blend___ror__ pm_Blend___ror__ an_Blend___ror__ cd_Blend___ror__ ct_Blend___ror__), sl_Blend___ror__⟩)
    (c_Blend___ror__ : PySem.W.codeIn K cd_Blend___ror__ "Blend.__ror__" = true)
    (k_Blend___ror__ : PySem.W.keepIn K (.ref f_Blend___ror__) = true)
    (a_Blend___xor__ : PySem.W.findIn K (.ref C_Blend) "__xor__" = some (some (.ref f_Blend___xor__)))
    (i_Blend___xor__ : PySem.W.isFn K (.ref f_Blend___xor__) = true)
    (l_Blend___xor__ : K.lookup f_Blend___xor__ = some ⟨oc_Blend___xor__, od_Blend___xor__, .func (PySem.W.fnOf "__xor__" "Blend.__xor__" (defArgs s_Blend___xor__) (defBody s_Blend___xor__) (defScope s_Blend___xor__) .none kV_Blend___xor__ dc_Blend___xor__ pm_Blend___xor__ an_Blend___xor__ cd_Blend___xor__ ct_Blend___xor__), sl_Blend___xor__⟩)
    (c_Blend___xor__ : PySem.W.codeIn K cd_Blend___xor__ "Blend.__xor__" = true)
    (k_Blend___xor__ : PySem.W.keepIn K (.ref f_Blend___xor__) = true)
    (a_Blend___rxor__ : PySem.W.findIn K (.ref C_Blend) "__rxor__" = some (some (.ref f_Blend___rxor__)))
    (i_Blend___rxor__ : PySem.W.isFn K (.ref f_Blend___rxor__) = true)
    (l_Blend___rxor__ : K.lookup f_Blend___rxor__ = some ⟨oc_Blend___rxor__, od_Blend___rxor__, .func (PySem.W.fnOf "__rxor__" "Blend.__rxor__" (defArgs s_Blend___rxor__) (defBody s_Blend___rxor__) (defScope s_Blend___rxor__) .none kV_Blend___rxor__ dc_Blend___rxor__ pm_Blend___rxor__ an_Blend___rxor__ cd_Blend___rxor__ ct_Blend___rxor__), sl_Blend___rxor__⟩)
    (c_Blend___rxor__ : PySem.W.codeIn K cd_Blend___rxor__ "Blend.__rxor__" = true)
    (k_Blend___rxor__ : PySem.W.keepIn K (.ref f_Blend___rxor__) = true)
    (a_Blend___invert__ : PySem.W.findIn K (.ref C_Blend) "__invert__" = some (some (.ref f_Blend___invert__)))
    (i_Blend___invert__ : PySem.W.isFn K (.ref f_Blend___invert__) = true)
    (l_Blend___invert__ : K.lookup f_Blend___invert__ = some ⟨oc_Blend___invert__, od_Blend___invert__, .func (PySem.W.fnOf "__invert__" "Blend.__invert__" (defArgs s_Blend___invert__) (defBody s_Blend___invert__) (defScope s_Blend___invert__) .none kV_Blend___invert__ dc_Blend___invert__ pm_Blend___invert__ an_Blend___invert__ cd_Blend___invert__ ct_Blend___invert__), sl_Blend___invert__⟩)
    (c_Blend___invert__ : PySem.W.codeIn K cd_Blend___invert__ "Blend.__invert__" = true)
    (k_Blend___invert__ : PySem.W.keepIn K (.ref f_Blend___invert__) = true)
    (a_Blend___lshift__ : PySem.W.findIn K (.ref C_Blend) "__lshift__" = some (some (.ref f_Blend___lshift__)))
    (i_Blend___lshift__ : PySem.W.isFn K (.ref f_Blend___lshift__) = true)
    (l_Blend___lshift__ : K.lookup f_Blend___lshift__ = some ⟨oc_Blend___lshift__, od_Blend___lshift__, .func (PySem.W.fnOf "__lshift__" "Blend.__lshift__" (defArgs s_Blend___lshift__) (defBody s_Blend___lshift__) (defScope s_Blend___lshift__) .none kV_Blend___lshift__ dc_Blend___lshift__ pm_Blend___lshift__ an_Blend___lshift__ cd_Blend___lshift__ ct_Blend___lshift__), sl_Blend___lshift__⟩)
    (c_Blend___lshift__ : PySem.W.codeIn K cd_Blend___lshift__ "Blend.__lshift__" = true)
    (k_Blend___lshift__ : PySem.W.keepIn K (.ref f_Blend___lshift__) = true)
    (a_Blend___rshift__ : PySem.W.findIn K (.ref C_Blend) "__rshift__" = some (some (.ref f_Blend___rshift__)))
    (i_Blend___rshift__ : PySem.W.isFn K (.ref f_Blend___rshift__) = true)
    (l_Blend___rshift__ : K.lookup f_Blend___rshift__ = some ⟨oc_Blend___rshift__, od_Blend___rshift__, .func (PySem.W.fnOf "__rshift__" "Blend.__rshift__" (defArgs s_Blend___rshift__) (defBody s_Blend___rshift__) (defScope s_Blend___rshift__) .none kV_Blend___rshift__ dc_Blend___rshift__ pm_Blend___rshift__ an_Blend___rshift__ cd_Blend___rshift__ ct_Blend___rshift__), sl_Blend___rshift__⟩)
    (c_Blend___rshift__ : PySem.W.codeIn K cd_Blend___rshift__ "Blend.__rshift__" = true)
    (k_Blend___rshift__ : PySem.W.keepIn K (.ref f_Blend___rshift__) = true)
    (a_Blend___eq__ : PySem.W.findIn K (.ref C_Blend) "__eq__" = some (some (.ref f_Blend___eq__)))
    (i_Blend___eq__ : PySem.W.isFn K (.ref f_Blend___eq__) = true)
    (l_Blend___eq__ : K.lookup f_Blend___eq__ = some ⟨oc_Blend___eq__, od_Blend___eq__, .func (PySem.W.fnOf "__eq__" "Blend.__eq__" (defArgs s_Blend___eq__) (defBody s_Blend___eq__) (defScope s_Blend___eq__) .none kV_Blend___eq__ dc_Blend___eq__ pm_Blend___eq__ an_Blend___eq__ cd_Blend___eq__ ct_Blend___eq__), sl_Blend___eq__⟩)
    (c_Blend___eq__ : PySem.W.codeIn K cd_Blend___eq__ "Blend.__eq__" = true)
    (k_Blend___eq__ : PySem.W.keepIn K (.ref f_Blend___eq__) = true)
    (a_Blend___repr__ : PySem.W.findIn K (.ref C_Blend) "__repr__" = some (some (.ref f_Blend___repr__)))
    (i_Blend___repr__ : PySem.W.isFn K (.ref f_Blend___repr__) = true)
    (l_Blend___repr__ : K.lookup f_Blend___repr__ = some ⟨oc_Blend___repr__, od_Blend___repr__, .func (PySem.W.fnOf "__repr__" "Blend.__repr__" (defArgs s_Blend___repr__) (defBody s_Blend___repr__) (defScope s_Blend___repr__) .none kV_Blend___repr__ dc_Blend___repr__ pm_Blend___repr__ an_Blend___repr__ cd_Blend___repr__ ct_Blend___repr__), sl_Blend___repr__⟩)
    (c_Blend___repr__ : PySem.W.codeIn K cd_Blend___repr__ "Blend.__repr__" = true)
    (k_Blend___repr__ : PySem.W.keepIn K (.ref f_Blend___repr__) = true)
    (a_Blend_then : PySem.W.findIn K (.ref C_Blend) "then" = some (some (.ref f_Blend_then)))
    (i_Blend_then : PySem.W.isFn K (.ref f_Blend_then) = true)
    (l_Blend_then : K.lookup f_Blend_then = some ⟨oc_Blend_then, od_Blend_then, .func (PySem.W.fnOf "then" "Blend.then" (defArgs s_Blend_then) (defBody s_Blend_then) (defScope s_Blend_then) .none kV_Blend_then dc_Blend_then pm_Blend_then an_Blend_then cd_Blend_then ct_Blend_then), sl_Blend_then⟩)
    (c_Blend_then : PySem.W.codeIn K cd_Blend_then "Blend.then" = true)
    (k_Blend_then : PySem.W.keepIn K (.ref f_Blend_then) = true)
    (a_Blend_sources : PySem.W.findIn K (.ref C_Blend) "sources" = some (some (.ref f_Blend_sources)))
    (i_Blend_sources : PySem.W.isFn K (.ref f_Blend_sources) = true)
    (l_Blend_sources : K.lookup f_Blend_sources = some ⟨oc_Blend_sources, od_Blend_sources, .func (PySem.W.fnOf "sources" "Blend.sources" (defArgs s_Blend_sources) (defBody s_Blend_sources) (defScope s_Blend_sources) .none kV_Blend_sources dc_Blend_sources pm_Blend_sources an_Blend_sources cd_Blend_sources ct_Blend_sources), sl_Blend_sources⟩)
    (c_Blend_sources : PySem.W.codeIn K cd_Blend_sources "Blend.sources" = true)
    (k_Blend_sources : PySem.W.keepIn K (.ref f_Blend_sources) = true)
    (a_moved : PySem.W.nsIn K mainGlobals "moved" = some (some (.ref f_moved)))
    (l_moved : K.lookup f_moved = some ⟨oc_moved, od_moved, .func (PySem.W.fnOf "moved" "moved" (defArgs s_moved) (defBody s_moved) (defScope s_moved) .none kV_moved dc_moved pm_moved an_moved cd_moved ct_moved), sl_moved⟩)
    (c_moved : PySem.W.codeIn K cd_moved "moved" = true)
    (k_moved : PySem.W.keepIn K (.ref f_moved) = true)
    (a_blend_parting : PySem.W.nsIn K mainGlobals "blend_parting" = some (some (.ref f_blend_parting)))
    (l_blend_parting : K.lookup f_blend_parting = some ⟨oc_blend_parting, od_blend_parting, .func (PySem.W.fnOf "blend_parting" "blend_parting" (defArgs s_blend_parting) (defBody s_blend_parting) (defScope s_blend_parting) .none kV_blend_parting dc_blend_parting pm_blend_parting an_blend_parting cd_blend_parting ct_blend_parting), sl_blend_parting⟩)
    (c_blend_parting : PySem.W.codeIn K cd_blend_parting "blend_parting" = true)
    (k_blend_parting : PySem.W.keepIn K (.ref f_blend_parting) = true)
    (a__law_pen : PySem.W.nsIn K mainGlobals "_law_pen" = some (some (.ref f__law_pen)))
    (l__law_pen : K.lookup f__law_pen = some ⟨oc__law_pen, od__law_pen, .func (PySem.W.fnOf "_law_pen" "_law_pen" (defArgs s__law_pen) (defBody s__law_pen) (defScope s__law_pen) .none kV__law_pen dc__law_pen pm__law_pen an__law_pen cd__law_pen ct__law_pen), sl__law_pen⟩)
    (c__law_pen : PySem.W.codeIn K cd__law_pen "_law_pen" = true)
    (k__law_pen : PySem.W.keepIn K (.ref f__law_pen) = true)
    (a__law_draw : PySem.W.nsIn K mainGlobals "_law_draw" = some (some (.ref f__law_draw)))
    (l__law_draw : K.lookup f__law_draw = some ⟨oc__law_draw, od__law_draw, .func (PySem.W.fnOf "_law_draw" "_law_draw" (defArgs s__law_draw) (defBody s__law_draw) (defScope s__law_draw) .none kV__law_draw dc__law_draw pm__law_draw an__law_draw cd__law_draw ct__law_draw), sl__law_draw⟩)
    (c__law_draw : PySem.W.codeIn K cd__law_draw "_law_draw" = true)
    (k__law_draw : PySem.W.keepIn K (.ref f__law_draw) = true)
    (a__law_word : PySem.W.nsIn K mainGlobals "_law_word" = some (some (.ref f__law_word)))
    (l__law_word : K.lookup f__law_word = some ⟨oc__law_word, od__law_word, .func (PySem.W.fnOf "_law_word" "_law_word" (defArgs s__law_word) (defBody s__law_word) (defScope s__law_word) .none kV__law_word dc__law_word pm__law_word an__law_word cd__law_word ct__law_word), sl__law_word⟩)
    (c__law_word : PySem.W.codeIn K cd__law_word "_law_word" = true)
    (k__law_word : PySem.W.keepIn K (.ref f__law_word) = true)
    (a__law_heard : PySem.W.nsIn K mainGlobals "_law_heard" = some (some (.ref f__law_heard)))
    (l__law_heard : K.lookup f__law_heard = some ⟨oc__law_heard, od__law_heard, .func (PySem.W.fnOf "_law_heard" "_law_heard" (defArgs s__law_heard) (defBody s__law_heard) (defScope s__law_heard) .none kV__law_heard dc__law_heard pm__law_heard an__law_heard cd__law_heard ct__law_heard), sl__law_heard⟩)
    (c__law_heard : PySem.W.codeIn K cd__law_heard "_law_heard" = true)
    (k__law_heard : PySem.W.keepIn K (.ref f__law_heard) = true)
    (a__law_blend : PySem.W.nsIn K mainGlobals "_law_blend" = some (some (.ref f__law_blend)))
    (l__law_blend : K.lookup f__law_blend = some ⟨oc__law_blend, od__law_blend, .func (PySem.W.fnOf "_law_blend" "_law_blend" (defArgs s__law_blend) (defBody s__law_blend) (defScope s__law_blend) .none kV__law_blend dc__law_blend pm__law_blend an__law_blend cd__law_blend ct__law_blend), sl__law_blend⟩)
    (c__law_blend : PySem.W.codeIn K cd__law_blend "_law_blend" = true)
    (k__law_blend : PySem.W.keepIn K (.ref f__law_blend) = true)
    (a__law_joined : PySem.W.nsIn K mainGlobals "_law_joined" = some (some (.ref f__law_joined)))
    (l__law_joined : K.lookup f__law_joined = some ⟨oc__law_joined, od__law_joined, .func (PySem.W.fnOf "_law_joined" "_law_joined" (defArgs s__law_joined) (defBody s__law_joined) (defScope s__law_joined) .none kV__law_joined dc__law_joined pm__law_joined an__law_joined cd__law_joined ct__law_joined), sl__law_joined⟩)
    (c__law_joined : PySem.W.codeIn K cd__law_joined "_law_joined" = true)
    (k__law_joined : PySem.W.keepIn K (.ref f__law_joined) = true)
    (a__law_behind_right : PySem.W.nsIn K mainGlobals "_law_behind_right" = some (some (.ref f__law_behind_right)))
    (l__law_behind_right : K.lookup f__law_behind_right = some ⟨oc__law_behind_right, od__law_behind_right, .func (PySem.W.fnOf "_law_behind_right" "_law_behind_right" (defArgs s__law_behind_right) (defBody s__law_behind_right) (defScope s__law_behind_right) .none kV__law_behind_right dc__law_behind_right pm__law_behind_right an__law_behind_right cd__law_behind_right ct__law_behind_right), sl__law_behind_right⟩)
    (c__law_behind_right : PySem.W.codeIn K cd__law_behind_right "_law_behind_right" = true)
    (k__law_behind_right : PySem.W.keepIn K (.ref f__law_behind_right) = true)
    (a_law : PySem.W.nsIn K mainGlobals "law" = some (some (.ref f_law)))
    (l_law : K.lookup f_law = some ⟨oc_law, od_law, .func (PySem.W.fnOf "law" "law" (defArgs s_law) (defBody s_law) (defScope s_law) .none kV_law dc_law pm_law an_law cd_law ct_law), sl_law⟩)
    (c_law : PySem.W.codeIn K cd_law "law" = true)
    (k_law : PySem.W.keepIn K (.ref f_law) = true)
    (tyg : PySem.W.specialIn K (.builtin "object.__class__") "__get__" = some (some (.builtin "getset_descriptor.__get__")))
    (tyt : PySem.W.takesIn K (.builtin "object.__class__") = some true)
    (aWd : PySem.W.nsIn K mainGlobals "WIDTHS" = some (some (.ref aW)))
    (lWd : K.lookup aW = some ⟨.type "tuple", dd_W, .seq #[.int 8 tw0, .int 16 tw1, .int 32 tw2] n_W, sl_W⟩)
    (aE0 : PySem.W.nsIn K mainGlobals "InvalidWidth" = some (some (.ref e0)))
    (xs0 : PySem.W.subIn K (.ref e0) (.type "BaseException") = some true)
    (xv0 : PySem.W.findIn K (.ref e0) "value" = some none)
    (lkE0 : K.lookup e0 = some o_E0)
    (lkF0 : o_E0 = (excClassObj nm_E0 qq_E0 e0 N_E0 bs_E0 bm_E0 true sn_E0 sub_E0 ab_E0 col_E0 dd_E0 k0_E0 k1_E0 k2_E0 k3_E0 k5_E0 "ValueError.__new__"))
    (rvE0 : PySem.HandSPX.refsVE bm_E0 = true)
    (saE0 : PySem.W.findIn K (.ref e0) "__setattr__" = some (some (.builtin "object.__setattr__")))
    (tyE0 : PySem.W.typeIn K (.ref e0) = some (.type "type"))
    (kpE0 : PySem.W.keepIn K (.ref e0) = true)
    (inE0 : PySem.W.findIn K (.ref e0) "__init__" = some (some (.ref fI0)))
    (tiE0 : PySem.W.typeIn K (.ref fI0) = some (.type "function"))
    (lIK0 : K.lookup fI0 = some ⟨oc_I0, od_I0, .func (PySem.W.ksFn "__init__" "InvalidWidth.__init__" (defArgs s_I0) (defBody s_I0) (defScope s_I0) .none kV_I0 dc_I0 pm_I0 an_I0 (.ref cda0) ct_I0 ccell0), sl_I0⟩)
    (cIK0 : PySem.W.codeIn K (.ref cda0) "InvalidWidth.__init__" = true)
    (lcd0 : K.lookup cda0 = some ⟨ccl_I0, cdd_I0, .fields vs_I0, ccs_I0⟩)
    (vsI0 : vs_I0[2]? = some (.str file_I0 tf_I0))
    (fiI0 : ((l.prog.main.file : Str) == file_I0) = true)
    (lcc0 : K.lookup ccell0 = some ⟨cl_I0, cld_I0, .cell (some (.ref e0)), csl_I0⟩)
    (sbI0 : PySem.W.mroIn K e0 (.ref e0) = some true)
    (veI0 : PySem.W.mroIn K e0 (.type "ValueError") = some true)
    (suI0 : PySem.W.ks_superIn K e0 e0 "__init__" = some (some (.builtin "ValueError.__init__")))
    (aE2 : PySem.W.nsIn K mainGlobals "InvalidWord" = some (some (.ref e2)))
    (xs2 : PySem.W.subIn K (.ref e2) (.type "BaseException") = some true)
    (xv2 : PySem.W.findIn K (.ref e2) "value" = some none)
    (lkE2 : K.lookup e2 = some o_E2)
    (lkF2 : o_E2 = (excClassObj nm_E2 qq_E2 e2 N_E2 bs_E2 bm_E2 true sn_E2 sub_E2 ab_E2 col_E2 dd_E2 k0_E2 k1_E2 k2_E2 k3_E2 k5_E2 "ValueError.__new__"))
    (rvE2 : PySem.HandSPX.refsVE bm_E2 = true)
    (saE2 : PySem.W.findIn K (.ref e2) "__setattr__" = some (some (.builtin "object.__setattr__")))
    (tyE2 : PySem.W.typeIn K (.ref e2) = some (.type "type"))
    (kpE2 : PySem.W.keepIn K (.ref e2) = true)
    (inE2 : PySem.W.findIn K (.ref e2) "__init__" = some (some (.ref fI2)))
    (tiE2 : PySem.W.typeIn K (.ref fI2) = some (.type "function"))
    (lIK2 : K.lookup fI2 = some ⟨oc_I2, od_I2, .func (PySem.W.ksFn "__init__" "InvalidWord.__init__" (defArgs s_I2) (defBody s_I2) (defScope s_I2) .none kV_I2 dc_I2 pm_I2 an_I2 (.ref cda2) ct_I2 ccell2), sl_I2⟩)
    (cIK2 : PySem.W.codeIn K (.ref cda2) "InvalidWord.__init__" = true)
    (lcd2 : K.lookup cda2 = some ⟨ccl_I2, cdd_I2, .fields vs_I2, ccs_I2⟩)
    (vsI2 : vs_I2[2]? = some (.str file_I2 tf_I2))
    (fiI2 : ((l.prog.main.file : Str) == file_I2) = true)
    (lcc2 : K.lookup ccell2 = some ⟨cl_I2, cld_I2, .cell (some (.ref e2)), csl_I2⟩)
    (sbI2 : PySem.W.mroIn K e2 (.ref e2) = some true)
    (veI2 : PySem.W.mroIn K e2 (.type "ValueError") = some true)
    (suI2 : PySem.W.ks_superIn K e2 e2 "__init__" = some (some (.builtin "ValueError.__init__")))
    (aE3 : PySem.W.nsIn K mainGlobals "InvalidShift" = some (some (.ref e3)))
    (xs3 : PySem.W.subIn K (.ref e3) (.type "BaseException") = some true)
    (xv3 : PySem.W.findIn K (.ref e3) "value" = some none)
    (lkE3 : K.lookup e3 = some o_E3)
    (lkF3 : o_E3 = (excClassObj nm_E3 qq_E3 e3 N_E3 bs_E3 bm_E3 true sn_E3 sub_E3 ab_E3 col_E3 dd_E3 k0_E3 k1_E3 k2_E3 k3_E3 k5_E3 "ValueError.__new__"))
    (rvE3 : PySem.HandSPX.refsVE bm_E3 = true)
    (saE3 : PySem.W.findIn K (.ref e3) "__setattr__" = some (some (.builtin "object.__setattr__")))
    (tyE3 : PySem.W.typeIn K (.ref e3) = some (.type "type"))
    (kpE3 : PySem.W.keepIn K (.ref e3) = true)
    (inE3 : PySem.W.findIn K (.ref e3) "__init__" = some (some (.ref fI3)))
    (tiE3 : PySem.W.typeIn K (.ref fI3) = some (.type "function"))
    (lIK3 : K.lookup fI3 = some ⟨oc_I3, od_I3, .func (PySem.W.ksFn "__init__" "InvalidShift.__init__" (defArgs s_I3) (defBody s_I3) (defScope s_I3) .none kV_I3 dc_I3 pm_I3 an_I3 (.ref cda3) ct_I3 ccell3), sl_I3⟩)
    (cIK3 : PySem.W.codeIn K (.ref cda3) "InvalidShift.__init__" = true)
    (lcd3 : K.lookup cda3 = some ⟨ccl_I3, cdd_I3, .fields vs_I3, ccs_I3⟩)
    (vsI3 : vs_I3[2]? = some (.str file_I3 tf_I3))
    (fiI3 : ((l.prog.main.file : Str) == file_I3) = true)
    (lcc3 : K.lookup ccell3 = some ⟨cl_I3, cld_I3, .cell (some (.ref e3)), csl_I3⟩)
    (sbI3 : PySem.W.mroIn K e3 (.ref e3) = some true)
    (veI3 : PySem.W.mroIn K e3 (.type "ValueError") = some true)
    (suI3 : PySem.W.ks_superIn K e3 e3 "__init__" = some (some (.builtin "ValueError.__init__")))
    (tpI : (l.prog.main.scope.names.lookup ("super" : Str)).isSome = false)
    (opI : PySem.W.nsIn K cStatics "thirdparty.any" = some none)
    (fnC : PySem.W.fnIn K f_Blend___call__ = true)
    (sfB : PySem.W.selfFirst K C_Blend = true)
    (sub_int : PySem.W.subIn K (.ref C_Blend) (.type "int") = some false)
    (sub_bool : PySem.W.subIn K (.ref C_Blend) (.type "bool") = some false)
    (sub_dict : PySem.W.subIn K (.ref C_Blend) (.type "dict") = some false)
    (rdB : PySem.W.readsIn K C_Blend (.type "type") = true)
    (gaB : PySem.W.specialIn K (.ref C_Blend) "__getattribute__" = some (some (.builtin "type.__getattribute__")))
    (d_and : PySem.W.findIn K (.ref C_Blend) (PySem.dunder Operator.BitAnd.info.2) = some (some (.ref f_Blend___and__)))
    (r_and : PySem.W.findIn K (.ref C_Blend) (dunderR Operator.BitAnd.info.2) = some (some (.ref f_Blend___rand__)))
    (d_or : PySem.W.findIn K (.ref C_Blend) (PySem.dunder Operator.BitOr.info.2) = some (some (.ref f_Blend___or__)))
    (r_or : PySem.W.findIn K (.ref C_Blend) (dunderR Operator.BitOr.info.2) = some (some (.ref f_Blend___ror__)))
    (d_xor : PySem.W.findIn K (.ref C_Blend) (PySem.dunder Operator.BitXor.info.2) = some (some (.ref f_Blend___xor__)))
    (r_xor : PySem.W.findIn K (.ref C_Blend) (dunderR Operator.BitXor.info.2) = some (some (.ref f_Blend___rxor__)))
    (d_shl : PySem.W.findIn K (.ref C_Blend) (PySem.dunder Operator.LShift.info.2) = some (some (.ref f_Blend___lshift__)))
    (r_shl : PySem.W.findIn K (.ref C_Blend) (dunderR Operator.LShift.info.2) = some rc_shl)
    (q_shl : rc_shl = none ∨ ∃ g : Addr, rc_shl = some (.ref g))
    (d_shr : PySem.W.findIn K (.ref C_Blend) (PySem.dunder Operator.RShift.info.2) = some (some (.ref f_Blend___rshift__)))
    (r_shr : PySem.W.findIn K (.ref C_Blend) (dunderR Operator.RShift.info.2) = some rc_shr)
    (q_shr : rc_shr = none ∨ ∃ g : Addr, rc_shr = some (.ref g))
    (tyc : PySem.W.findIn K (.ref C_Blend) "__class__" = some (some (.builtin "object.__class__")))
    (tym : PySem.W.mroIn K C_Blend (.type "object") = some true)
    (tyi : PySem.W.kitOne K (.ref C_Blend) (.ref C_Blend) = some true)
    (lkK : K.lookup C_Blend = some o_K)
    (lkO : o_K = (excClassObj nm_K qq_K C_Blend N_B bs_K [.type "object"] hd_K sn_K sub_K ab_K col_K dd_K k0_K k1_K k2_K k3_K k5_K nid_K))
    (nsK : K.lookup N_B = some o_N)
    (nsO : ∀ K2 : PySem.W.Frag, K2.lookup N_B = some o_N → PySem.W.nsOkIn K2 N_B = true)
    (neq : PySem.W.nsIn K N_B "__eq__" = some (some (.ref f_Blend___eq__)))
    (nne : PySem.W.nsIn K N_B "__ne__" = some none)
    (foK : oc_Blend___eq__ = .type "function")
    (nfC : PySem.W.notFirst K C_Blend (.ref C_Blend) = true)
    (aB : PySem.W.nsIn K mainGlobals "BitError" = some (some (.ref CB)))
    (aE1 : PySem.W.nsIn K mainGlobals "InvalidLane" = some (some (.ref e1)))
    (aE4 : PySem.W.nsIn K mainGlobals "InvalidKind" = some (some (.ref e4)))
    (aE5 : PySem.W.nsIn K mainGlobals "InvalidLetters" = some (some (.ref e5)))
    (kt0_0 : PySem.W.kitOne K (.ref e0) (.ref e0) = some true)
    (kt0_1 : PySem.W.kitOne K (.ref e0) (.ref e1) = some false)
    (kt0_2 : PySem.W.kitOne K (.ref e0) (.ref e2) = some false)
    (kt0_3 : PySem.W.kitOne K (.ref e0) (.ref e3) = some false)
    (kt0_4 : PySem.W.kitOne K (.ref e0) (.ref e4) = some false)
    (kt0_5 : PySem.W.kitOne K (.ref e0) (.ref e5) = some false)
    (ktv0 : PySem.W.kitOne K (.ref e0) (.type "ValueError") = some true)
    (exm0 : PySem.W.exmOne K (.ref e0) (.ref CB) = some true)
    (xg0 : PySem.W.findIn K (.ref e0) "__getattribute__" = some (some (.builtin "BaseException.__getattribute__")))
    (xk0 : PySem.W.findIn K (.ref e0) "__getattr__" = some none)
    (xd0 : PySem.W.hasDictIn K e0 = true)
    (xa0 : PySem.W.findIn K (.ref e0) "__class__" = some (some (.builtin "object.__class__")))
    (xm0 : PySem.W.mroIn K e0 (.type "object") = some true)
    (tabL : PySem.W.tabIn K "law" = some (cL, PL))
    (ntbL : K.lookup PL = none)
    (z_int : PySem.W.nsIn K mainGlobals "int" = some none)
    (z_bool : PySem.W.nsIn K mainGlobals "bool" = some none)
    (z_abs : PySem.W.nsIn K mainGlobals "abs" = some none)
    (z_len : PySem.W.nsIn K mainGlobals "len" = some none)
    (z_list : PySem.W.nsIn K mainGlobals "list" = some none)
    (z_str : PySem.W.nsIn K mainGlobals "str" = some none)
    (z_range : PySem.W.nsIn K mainGlobals "range" = some none)
    (z_isinstance : PySem.W.nsIn K mainGlobals "isinstance" = some none)
    (z_repr : PySem.W.nsIn K mainGlobals "repr" = some none)
    (z_sorted : PySem.W.nsIn K mainGlobals "sorted" = some none)
    (z_dict : PySem.W.nsIn K mainGlobals "dict" = some none)
    (z_ValueError : PySem.W.nsIn K mainGlobals "ValueError" = some none)
    (z_super : PySem.W.nsIn K mainGlobals "super" = some none)
    : ∃ (fd : FuncData) (cs : List (Addr × Addr)), cs.length = (["law"] : List Str).length ∧ (∀ p ∈ (["law"] : List Str).zip cs, PySem.W.tabIn K p.1 = some p.2) ∧ (∀ p ∈ cs, K.lookup p.2 = none) ∧ (∀ (s : Shared) (v : Value), BindsTo s fd ⟨[v], []⟩ [("_law_script", v)]) ∧ ∀ base : Heap, K.In base → base.Ns mainGlobals mg → (∀ p ∈ cs, LamX.TabB base mg p.1 p.2) → KG.FnG l.prog w K mg base CX0 13 fa fd ["_law_script"] (spLaw K cs) := by
  have e := hfa.symm.trans (PySem.W.mg_of X G a_law)
  cases e
  have F_is_integer := fun_mk (st := s_is_integer) l_is_integer c_is_integer k_is_integer
  have b_is_integer := F_is_integer.binds (ps := ["value"]) fun _ _ _ _ _ _ us hl => match us, hl with | [_], _ => rfl
  have F_need_width := fun_mk (st := s_need_width) l_need_width c_need_width k_need_width
  have b_need_width := F_need_width.binds (ps := ["width"]) fun _ _ _ _ _ _ us hl => match us, hl with | [_], _ => rfl
  have F_ones := fun_mk (st := s_ones) l_ones c_ones k_ones
  have b_ones := F_ones.binds (ps := ["width"]) fun _ _ _ _ _ _ us hl => match us, hl with | [_], _ => rfl
  have F_is_word := fun_mk (st := s_is_word) l_is_word c_is_word k_is_word
  have b_is_word := F_is_word.binds (ps := ["width", "value"]) fun _ _ _ _ _ _ us hl => match us, hl with | [_, _], _ => rfl
  have F_need_word := fun_mk (st := s_need_word) l_need_word c_need_word k_need_word
  have b_need_word := F_need_word.binds (ps := ["width", "value"]) fun _ _ _ _ _ _ us hl => match us, hl with | [_, _], _ => rfl
  have F_shifted := fun_mk (st := s_shifted) l_shifted c_shifted k_shifted
  have b_shifted := F_shifted.binds (ps := ["value", "width", "shift"]) fun _ _ _ _ _ _ us hl => match us, hl with | [_, _, _], _ => rfl
  have F_need_step := fun_mk (st := s_need_step) l_need_step c_need_step k_need_step
  have b_need_step := F_need_step.binds (ps := ["width", "step"]) fun _ _ _ _ _ _ us hl => match us, hl with | [_, _], _ => rfl
  have F_Blend_constant := fun_mk (st := s_Blend_constant) l_Blend_constant c_Blend_constant k_Blend_constant
  have b_Blend_constant := F_Blend_constant.binds (ps := ["cls", "width", "value"]) fun _ _ _ _ _ _ us hl => match us, hl with | [_, _, _], _ => rfl
  have F_Blend_is_constant := fun_mk (st := s_Blend_is_constant) l_Blend_is_constant c_Blend_is_constant k_Blend_is_constant
  have b_Blend_is_constant := F_Blend_is_constant.binds (ps := ["self"]) fun _ _ _ _ _ _ us hl => match us, hl with | [_], _ => rfl
  have F_Blend___call__ := fun_mk (st := s_Blend___call__) l_Blend___call__ c_Blend___call__ k_Blend___call__
  have b_Blend___call__ := F_Blend___call__.binds (ps := ["self", "value"]) fun _ _ _ _ _ _ us hl => match us, hl with | [_, _], _ => rfl
  have F_Blend___and__ := fun_mk (st := s_Blend___and__) l_Blend___and__ c_Blend___and__ k_Blend___and__
  have b_Blend___and__ := F_Blend___and__.binds (ps := ["self", "other"]) fun _ _ _ _ _ _ us hl => match us, hl with | [_, _], _ => rfl
  have F_Blend___rand__ := fun_mk (st := s_Blend___rand__) l_Blend___rand__ c_Blend___rand__ k_Blend___rand__
  have b_Blend___rand__ := F_Blend___rand__.binds (ps := ["self", "other"]) fun _ _ _ _ _ _ us hl => match us, hl with | [_, _], _ => rfl
  have F_Blend___or__ := fun_mk (st := s_Blend___or__) l_Blend___or__ c_Blend___or__ k_Blend___or__
  have b_Blend___or__ := F_Blend___or__.binds (ps := ["self", "other"]) fun _ _ _ _ _ _ us hl => match us, hl with | [_, _], _ => rfl
  have F_Blend___ror__ := fun_mk (st := s_Blend___ror__) l_Blend___ror__ c_Blend___ror__ k_Blend___ror__
  have b_Blend___ror__ := F_Blend___ror__.binds (ps := ["self", "other"]) fun _ _ _ _ _ _ us hl => match us, hl with | [_, _], _ => rfl
  have F_Blend___xor__ := fun_mk (st := s_Blend___xor__) l_Blend___xor__ c_Blend___xor__ k_Blend___xor__
  have b_Blend___xor__ := F_Blend___xor__.binds (ps := ["self", "other"]) fun _ _ _ _ _ _ us hl => match us, hl with | [_, _], _ => rfl
  have F_Blend___rxor__ := fun_mk (st := s_Blend___rxor__) l_Blend___rxor__ c_Blend___rxor__ k_Blend___rxor__
  have b_Blend___rxor__ := F_Blend___rxor__.binds (ps := ["self", "other"]) fun _ _ _ _ _ _ us hl => match us, hl with | [_, _], _ => rfl
  have F_Blend___invert__ := fun_mk (st := s_Blend___invert__) l_Blend___invert__ c_Blend___invert__ k_Blend___invert__
  have b_Blend___invert__ := F_Blend___invert__.binds (ps := ["self"]) fun _ _ _ _ _ _ us hl => match us, hl with | [_], _ => rfl
  have F_Blend___lshift__ := fun_mk (st := s_Blend___lshift__) l_Blend___lshift__ c_Blend___lshift__ k_Blend___lshift__
  have b_Blend___lshift__ := F_Blend___lshift__.binds (ps := ["self", "other"]) fun _ _ _ _ _ _ us hl => match us, hl with | [_, _], _ => rfl
  have F_Blend___rshift__ := fun_mk (st := s_Blend___rshift__) l_Blend___rshift__ c_Blend___rshift__ k_Blend___rshift__
  have b_Blend___rshift__ := F_Blend___rshift__.binds (ps := ["self", "other"]) fun _ _ _ _ _ _ us hl => match us, hl with | [_, _], _ => rfl
  have F_Blend___eq__ := fun_mk (st := s_Blend___eq__) l_Blend___eq__ c_Blend___eq__ k_Blend___eq__
  have b_Blend___eq__ := F_Blend___eq__.binds (ps := ["self", "other"]) fun _ _ _ _ _ _ us hl => match us, hl with | [_, _], _ => rfl
  have F_Blend___repr__ := fun_mk (st := s_Blend___repr__) l_Blend___repr__ c_Blend___repr__ k_Blend___repr__
  have b_Blend___repr__ := F_Blend___repr__.binds (ps := ["self"]) fun _ _ _ _ _ _ us hl => match us, hl with | [_], _ => rfl
  have F_Blend_then := fun_mk (st := s_Blend_then) l_Blend_then c_Blend_then k_Blend_then
  have b_Blend_then := F_Blend_then.binds (ps := ["self", "c"]) fun _ _ _ _ _ _ us hl => match us, hl with | [_, _], _ => rfl
  have F_Blend_sources := fun_mk (st := s_Blend_sources) l_Blend_sources c_Blend_sources k_Blend_sources
  have b_Blend_sources := F_Blend_sources.binds (ps := ["self"]) fun _ _ _ _ _ _ us hl => match us, hl with | [_], _ => rfl
  have F_moved := fun_mk (st := s_moved) l_moved c_moved k_moved
  have b_moved := F_moved.binds (ps := ["blend", "step"]) fun _ _ _ _ _ _ us hl => match us, hl with | [_, _], _ => rfl
  have F_blend_parting := fun_mk (st := s_blend_parting) l_blend_parting c_blend_parting k_blend_parting
  have b_blend_parting := F_blend_parting.binds (ps := ["b", "c"]) fun _ _ _ _ _ _ us hl => match us, hl with | [_, _], _ => rfl
  have F__law_pen := fun_mk (st := s__law_pen) l__law_pen c__law_pen k__law_pen
  have b__law_pen := F__law_pen.binds (ps := ["_law_script"]) fun _ _ _ _ _ _ us hl => match us, hl with | [_], _ => rfl
  have F__law_draw := fun_mk (st := s__law_draw) l__law_draw c__law_draw k__law_draw
  have b__law_draw := F__law_draw.binds (ps := ["_law_pen_here", "_law_many"]) fun _ _ _ _ _ _ us hl => match us, hl with | [_, _], _ => rfl
  have F__law_word := fun_mk (st := s__law_word) l__law_word c__law_word k__law_word
  have b__law_word := F__law_word.binds (ps := ["_law_pen_here", "_law_wide"]) fun _ _ _ _ _ _ us hl => match us, hl with | [_, _], _ => rfl
  have F__law_heard := fun_mk (st := s__law_heard) l__law_heard c__law_heard k__law_heard
  have b__law_heard := F__law_heard.binds (ps := ["_law_ask"]) fun _ _ _ _ _ _ us hl => match us, hl with | [_], _ => rfl
  have F__law_blend := fun_mk (st := s__law_blend) l__law_blend c__law_blend k__law_blend
  have b__law_blend := F__law_blend.binds (ps := ["_law_pen_here", "_law_wide"]) fun _ _ _ _ _ _ us hl => match us, hl with | [_, _], _ => rfl
  have F__law_joined := fun_mk (st := s__law_joined) l__law_joined c__law_joined k__law_joined
  have b__law_joined := F__law_joined.binds (ps := ["_law_first", "_law_second"]) fun _ _ _ _ _ _ us hl => match us, hl with | [_, _], _ => rfl
  have F__law_behind_right := fun_mk (st := s__law_behind_right) l__law_behind_right c__law_behind_right k__law_behind_right
  have b__law_behind_right := F__law_behind_right.binds (ps := ["_law_pen_here", "_law_blend_here"]) fun _ _ _ _ _ _ us hl => match us, hl with | [_, _], _ => rfl
  have F_law := fun_mk (st := s_law) l_law c_law k_law
  have b_law := F_law.binds (ps := ["_law_script"]) fun _ _ _ _ _ _ us hl => match us, hl with | [_], _ => rfl

  have cB : Cls K C_Blend := ⟨pg_Blend, hd_Blend, po_Blend, sa_Blend⟩
  have T0 : Txt mg := {
    z_int := PySem.W.mg_none_of X G z_int, z_bool := PySem.W.mg_none_of X G z_bool, z_abs := PySem.W.mg_none_of X G z_abs, z_len := PySem.W.mg_none_of X G z_len, z_list := PySem.W.mg_none_of X G z_list, z_str := PySem.W.mg_none_of X G z_str
    z_range := PySem.W.mg_none_of X G z_range, z_isinstance := PySem.W.mg_none_of X G z_isinstance, z_repr := PySem.W.mg_none_of X G z_repr, z_sorted := PySem.W.mg_none_of X G z_sorted, z_dict := PySem.W.mg_none_of X G z_dict, z_ValueError := PySem.W.mg_none_of X G z_ValueError }
  have T : TxtB K mg C_Blend aW := {
    toTxt := T0, cl := cB, n_width := n_Blend_width, n_shift := n_Blend_shift, n_keep := n_Blend_keep, n_flip := n_Blend_flip, mg_Blend := PySem.W.mg_of X G aC_Blend, mg_WIDTHS := PySem.W.mg_of X G aWd
    widths := sqK lWd (by simp) (.cons ⟨_, rfl⟩ (.cons ⟨_, rfl⟩ (.cons ⟨_, rfl⟩ .nil))) }
  have TE : TxtE K mg CB (errsOf e0 e1 e2 e3 e4 e5) := {
    toTxt := T0, mg_BitError := PySem.W.mg_of X G aB, mg_InvalidWidth := PySem.W.mg_of X G aE0, mg_InvalidLane := PySem.W.mg_of X G aE1, mg_InvalidWord := PySem.W.mg_of X G aE2, mg_InvalidShift := PySem.W.mg_of X G aE3
    mg_InvalidKind := PySem.W.mg_of X G aE4, mg_InvalidLetters := PySem.W.mg_of X G aE5 }
  have EA0 : ErrAt K CB (errsOf e0 e1 e2 e3 e4 e5) 0 := {
    lt := by decide, bit := exm0, exc := ⟨xg0, xk0, xs0, xd0, xa0, tyg, tyt, xm0⟩, xf := ⟨xg0, xk0, xs0, xd0⟩, nof := xv0, ve := ktv0
    kit := fun j hj => by
      match j, hj with
      | 0, _ => exact kt0_0
      | 1, _ => exact kt0_1
      | 2, _ => exact kt0_2
      | 3, _ => exact kt0_3
      | 4, _ => exact kt0_4
      | 5, _ => exact kt0_5
      | j + 6, h => exact absurd h (by omega) }

  have OX0 : OexC K e0 := ⟨⟨nm_E0, qq_E0, N_E0, bs_E0, bm_E0, sn_E0, sub_E0, ab_E0, col_E0, dd_E0, k0_E0, k1_E0, k2_E0, k3_E0, k5_E0, lkE0.trans (congrArg some lkF0), rvE0⟩, saE0, xs0, tyE0, kpE0⟩
  have SF0 : KX.SupFn K l.prog fI0 (PySem.W.ksFn "__init__" "InvalidWidth.__init__" (defArgs s_I0) (defBody s_I0) (defScope s_I0) .none kV_I0 dc_I0 pm_I0 an_I0 (.ref cda0) ct_I0 ccell0) e0 "value" "value" := {
    ex := ⟨"InvalidWidth.__init__", defArgs s_I0, defScope s_I0, .none, kV_I0, dc_I0, pm_I0, ct_I0, oc_I0, ccl_I0, cl_I0, an_I0, od_I0, cdd_I0, cld_I0, sl_I0, ccs_I0, csl_I0, cda0, ccell0, vs_I0, file_I0, tf_I0, _, _, _, _, _, _, _, _, _, _, _, _, _, _, rfl, lIK0, cIK0, lcd0, vsI0, fiI0, lcc0, rfl, rfl, rfl, rfl, rfl, by decide +kernel, free_only (by decide +kernel), rfl, rfl, rfl, rfl, fun en => rfl⟩
    top := tpI, nv := ⟨by decide, by decide, by decide⟩, opq := opI, sub := sbI0, ve := veI0, sup := suI0, nof := xv0 }
  have OX2 : OexC K e2 := ⟨⟨nm_E2, qq_E2, N_E2, bs_E2, bm_E2, sn_E2, sub_E2, ab_E2, col_E2, dd_E2, k0_E2, k1_E2, k2_E2, k3_E2, k5_E2, lkE2.trans (congrArg some lkF2), rvE2⟩, saE2, xs2, tyE2, kpE2⟩
  have SF2 : KX.SupFn K l.prog fI2 (PySem.W.ksFn "__init__" "InvalidWord.__init__" (defArgs s_I2) (defBody s_I2) (defScope s_I2) .none kV_I2 dc_I2 pm_I2 an_I2 (.ref cda2) ct_I2 ccell2) e2 "value" "value" := {
    ex := ⟨"InvalidWord.__init__", defArgs s_I2, defScope s_I2, .none, kV_I2, dc_I2, pm_I2, ct_I2, oc_I2, ccl_I2, cl_I2, an_I2, od_I2, cdd_I2, cld_I2, sl_I2, ccs_I2, csl_I2, cda2, ccell2, vs_I2, file_I2, tf_I2, _, _, _, _, _, _, _, _, _, _, _, _, _, _, rfl, lIK2, cIK2, lcd2, vsI2, fiI2, lcc2, rfl, rfl, rfl, rfl, rfl, by decide +kernel, free_only (by decide +kernel), rfl, rfl, rfl, rfl, fun en => rfl⟩
    top := tpI, nv := ⟨by decide, by decide, by decide⟩, opq := opI, sub := sbI2, ve := veI2, sup := suI2, nof := xv2 }
  have OX3 : OexC K e3 := ⟨⟨nm_E3, qq_E3, N_E3, bs_E3, bm_E3, sn_E3, sub_E3, ab_E3, col_E3, dd_E3, k0_E3, k1_E3, k2_E3, k3_E3, k5_E3, lkE3.trans (congrArg some lkF3), rvE3⟩, saE3, xs3, tyE3, kpE3⟩
  have SF3 : KX.SupFn K l.prog fI3 (PySem.W.ksFn "__init__" "InvalidShift.__init__" (defArgs s_I3) (defBody s_I3) (defScope s_I3) .none kV_I3 dc_I3 pm_I3 an_I3 (.ref cda3) ct_I3 ccell3) e3 "value" "value" := {
    ex := ⟨"InvalidShift.__init__", defArgs s_I3, defScope s_I3, .none, kV_I3, dc_I3, pm_I3, ct_I3, oc_I3, ccl_I3, cl_I3, an_I3, od_I3, cdd_I3, cld_I3, sl_I3, ccs_I3, csl_I3, cda3, ccell3, vs_I3, file_I3, tf_I3, _, _, _, _, _, _, _, _, _, _, _, _, _, _, rfl, lIK3, cIK3, lcd3, vsI3, fiI3, lcc3, rfl, rfl, rfl, rfl, rfl, by decide +kernel, free_only (by decide +kernel), rfl, rfl, rfl, rfl, fun en => rfl⟩
    top := tpI, nv := ⟨by decide, by decide, by decide⟩, opq := opI, sub := sbI3, ve := veI3, sup := suI3, nof := xv3 }

  have eL : cd_law = .ref cL := code_of tabL a_law l_law rfl
  subst eL
  refine ⟨PySem.W.fnOf "law" "law" (defArgs s_law) (defBody s_law) (defScope s_law) .none kV_law dc_law pm_law an_law (.ref cL) ct_law, [(cL, PL)], rfl, fun p hp => ?_, fun p hp => ?_, fun s v => .of_eq rfl, fun base _ _ tb => ?_⟩
  · rw [List.mem_singleton.mp (show p ∈ [(("law" : Str), (cL, PL))] from hp)]
    exact tabL
  · rw [List.mem_singleton.mp hp]
    exact ntbL
  have em0 : KX.ErrMk l.prog w K mg base e0 "InvalidWidth" "value" := ⟨fI0, _, "value", OX0, inE0, tiE0, KX.sup_ok SF0 OX0 (PySem.W.mg_none_of X G z_super) (by decide +kernel), .all fun us hl => (match us, hl with | [_, _], _ => rfl), PySem.W.mg_of X G aE0⟩
  have em2 : KX.ErrMk l.prog w K mg base e2 "InvalidWord" "value" := ⟨fI2, _, "value", OX2, inE2, tiE2, KX.sup_ok SF2 OX2 (PySem.W.mg_none_of X G z_super) (by decide +kernel), .all fun us hl => (match us, hl with | [_, _], _ => rfl), PySem.W.mg_of X G aE2⟩
  have em3 : KX.ErrMk l.prog w K mg base e3 "InvalidShift" "value" := ⟨fI3, _, "value", OX3, inE3, tiE3, KX.sup_ok SF3 OX3 (PySem.W.mg_none_of X G z_super) (by decide +kernel), .all fun us hl => (match us, hl with | [_, _], _ => rfl), PySem.W.mg_of X G aE3⟩
  have FD : FunD K "__init__" "Blend.__init__" (defArgs s_Blend___init__) (defBody s_Blend___init__) (defScope s_Blend___init__) [.int 0, .non, .int 0] [] f_Blend___init__ _ := ⟨⟨_, _, _, _, _, _, _, _, _, _, rfl, l_Blend___init__, c_Blend___init__, .inr ⟨by simp, DT_Blend___init__, _, [.int 0 tk_Blend___init___0, .none, .int 0 tk_Blend___init___2], _, rfl, dt_Blend___init__, rfl, .cons ⟨_, rfl⟩ (.cons rfl (.cons ⟨_, rfl⟩ .nil))⟩, .inl rfl⟩, k_Blend___init__⟩
  obtain ⟨ds5, vd5, bd5⟩ := FD.binds1 (ps := ["self", "width", "shift", "keep", "flip"]) 5 3 (by simp) rfl fun T kV doc pm an cdv ct us its hu hi => match us, its, hu, hi with
    | [_, _, _, _, _], [_, _, _], _, _ => ⟨_, rfl, rfl⟩
  obtain rfl : ds5 = [] := by
    cases vd5
    rfl
  obtain ⟨ds2, vd2, bd2⟩ := FD.binds1 (ps := ["self", "width", "shift", "keep", "flip"]) 2 0 (by simp) rfl fun T kV doc pm an cdv ct us its hu hi => match us, its, hu, hi with
    | [_, _], [_, _, _], _, _ => ⟨_, rfl, rfl⟩
  have cI : KB.Callee l.prog w K mg base CX0 1 "is_integer" ["value"] (spInt) := ⟨⟨_, _, ok_int F_is_integer T0, PySem.W.mg_of X G a_is_integer, k_is_integer, b_is_integer⟩⟩
  have cN1 : KB.Callee l.prog w K mg base (L2.CX l.prog w) 3 "need_width" ["width"] (spNW e0) := ⟨⟨_, _, ok_nw F_need_width T em0 cI, PySem.W.mg_of X G a_need_width, k_need_width, b_need_width⟩⟩
  have cO1 : KB.Callee l.prog w K mg base CX0 1 "ones" ["width"] (spOnes) := ⟨⟨_, _, ok_ones F_ones, PySem.W.mg_of X G a_ones, k_ones, b_ones⟩⟩
  have cS : KB.Callee l.prog w K mg base CX0 2 "shifted" ["value", "width", "shift"] (spSh) := ⟨⟨_, _, ok_sh F_shifted cO1, PySem.W.mg_of X G a_shifted, k_shifted, b_shifted⟩⟩
  have cW : KB.Callee l.prog w K mg base CX0 4 "is_word" ["width", "value"] (spIsWord) := ⟨⟨_, _, ok_isword (C := C_Blend) (aW := aW) F_is_word cN1 cI cO1, PySem.W.mg_of X G a_is_word, k_is_word, b_is_word⟩⟩
  have cD : KB.Callee l.prog w K mg base (L2.CX l.prog w) 5 "need_word" ["width", "value"] (spNeed e2) := ⟨⟨_, _, ok_need F_need_word em2 cW, PySem.W.mg_of X G a_need_word, k_need_word, b_need_word⟩⟩
  have okb : FnOk l.prog w K mg base (L2.CX l.prog w) 6 f_Blend___init__ _ ["self", "width", "shift", "keep", "flip"] (spBlend C_Blend e0 e3 e2) := ok_blend FD T em3 cN1 cI cD cO1 cS
  have mkB : Mk K C_Blend f_Blend___init__ := ⟨mk_Blend, a_Blend___init__, i_Blend___init__, kc_Blend⟩
  have ci : CalleeI l.prog w K mg base (L2.CX l.prog w) 6 C_Blend "Blend" ["self", "width", "shift", "keep", "flip"] (spBlend C_Blend e0 e3 e2) := ⟨⟨_, _, okb, mkB, T.mg_Blend, bd5⟩⟩
  have cd1 : KC.CalleeID l.prog w K mg base (L2.CX l.prog w) 6 C_Blend "Blend" ["self", "width", "shift", "keep", "flip"] (spBlend C_Blend e0 e3 e2) [.int 0, .non, .int 0] := ⟨⟨_, _, ds2, okb, mkB, T.mg_Blend, bd2, vd2⟩⟩
  have oc : KC.OwnC l.prog w K mg base (L2.CX l.prog w) 6 C_Blend ["self", "value"] (spBCall C_Blend e2) := ⟨⟨_, _, a_Blend___call__, i_Blend___call__, fnC, ok_bcall F_Blend___call__ T cD cS, b_Blend___call__⟩⟩
  have cSt : KB.Callee l.prog w K mg base (L2.CX l.prog w) 3 "need_step" ["width", "step"] (spStepN e3) := ⟨⟨_, _, ok_step F_need_step em3 cI, PySem.W.mg_of X G a_need_step, k_need_step, b_need_step⟩⟩
  have cM1 : KB.Callee l.prog w K mg base CX0 8 "moved" ["blend", "step"] (spMoved C_Blend) := ⟨⟨_, _, ok_moved F_moved T cS ci, PySem.W.mg_of X G a_moved, k_moved, b_moved⟩⟩
  have orp : OwnM l.prog w K mg base 1 C_Blend "__repr__" ["self"] (spBRepr C_Blend) := ⟨⟨_, _, a_Blend___repr__, i_Blend___repr__, ok_brepr F_Blend___repr__ T, b_Blend___repr__⟩⟩
  have ok_and_ : FnOk l.prog w K mg base (L2.CX l.prog w) 8 f_Blend___and__ _ ["self", "other"] (spBin C_Blend e2 kAnd fAnd) := ok_andB F_Blend___and__ T cD ci
  have bdand : KR.OwnBD l.prog w K mg base (L2.CX l.prog w) 8 C_Blend .BitAnd ["self", "other"] (spBin C_Blend e2 kAnd fAnd) := ⟨⟨_, _, _, by decide, sfB, d_and, i_Blend___and__, r_and, .inr ⟨_, rfl⟩, ok_and_, b_Blend___and__⟩⟩
  have brand : KR.OwnBR l.prog w K mg base (L2.CX l.prog w) 8 C_Blend .BitAnd ["self", "other"] (spBin C_Blend e2 kAnd fAnd) := ⟨⟨_, _, _, by decide, sfB, d_and, i_Blend___rand__, r_and, sub_int, sub_bool, sub_dict, ok_rand F_Blend___rand__ T cD ci, b_Blend___rand__⟩⟩
  have ok_or_ : FnOk l.prog w K mg base (L2.CX l.prog w) 8 f_Blend___or__ _ ["self", "other"] (spBin C_Blend e2 kOr fOr) := ok_or F_Blend___or__ T cD cO1 ci
  have bdor : KR.OwnBD l.prog w K mg base (L2.CX l.prog w) 8 C_Blend .BitOr ["self", "other"] (spBin C_Blend e2 kOr fOr) := ⟨⟨_, _, _, by decide, sfB, d_or, i_Blend___or__, r_or, .inr ⟨_, rfl⟩, ok_or_, b_Blend___or__⟩⟩
  have bror : KR.OwnBR l.prog w K mg base (L2.CX l.prog w) 8 C_Blend .BitOr ["self", "other"] (spBin C_Blend e2 kOr fOr) := ⟨⟨_, _, _, by decide, sfB, d_or, i_Blend___ror__, r_or, sub_int, sub_bool, sub_dict, ok_ror F_Blend___ror__ T cD cO1 ci, b_Blend___ror__⟩⟩
  have ok_xor_ : FnOk l.prog w K mg base (L2.CX l.prog w) 8 f_Blend___xor__ _ ["self", "other"] (spBin C_Blend e2 kXor fXor) := ok_xor F_Blend___xor__ T cD ci
  have bdxor : KR.OwnBD l.prog w K mg base (L2.CX l.prog w) 8 C_Blend .BitXor ["self", "other"] (spBin C_Blend e2 kXor fXor) := ⟨⟨_, _, _, by decide, sfB, d_xor, i_Blend___xor__, r_xor, .inr ⟨_, rfl⟩, ok_xor_, b_Blend___xor__⟩⟩
  have brxor : KR.OwnBR l.prog w K mg base (L2.CX l.prog w) 8 C_Blend .BitXor ["self", "other"] (spBin C_Blend e2 kXor fXor) := ⟨⟨_, _, _, by decide, sfB, d_xor, i_Blend___rxor__, r_xor, sub_int, sub_bool, sub_dict, ok_rxor F_Blend___rxor__ T cD ci, b_Blend___rxor__⟩⟩
  have ok_shl_ : FnOk l.prog w K mg base (L2.CX l.prog w) 9 f_Blend___lshift__ _ ["self", "other"] (spShl C_Blend e3) := ok_shl F_Blend___lshift__ T cSt cM1
  have bdshl : KR.OwnBD l.prog w K mg base (L2.CX l.prog w) 9 C_Blend .LShift ["self", "other"] (spShl C_Blend e3) := ⟨⟨_, _, _, by decide, sfB, d_shl, i_Blend___lshift__, r_shl, q_shl, ok_shl_, b_Blend___lshift__⟩⟩
  have ok_shr_ : FnOk l.prog w K mg base (L2.CX l.prog w) 9 f_Blend___rshift__ _ ["self", "other"] (spShr C_Blend e3) := ok_shr F_Blend___rshift__ T cSt cM1
  have bdshr : KR.OwnBD l.prog w K mg base (L2.CX l.prog w) 9 C_Blend .RShift ["self", "other"] (spShr C_Blend e3) := ⟨⟨_, _, _, by decide, sfB, d_shr, i_Blend___rshift__, r_shr, q_shr, ok_shr_, b_Blend___rshift__⟩⟩
  have uB : KW.OwnU l.prog w K mg base CX0 8 C_Blend ["self"] (spInv C_Blend) := ⟨⟨_, _, a_Blend___invert__, i_Blend___invert__, ok_inv F_Blend___invert__ T cO1 ci, b_Blend___invert__⟩⟩
  have pI : KW.OwnP l.prog w K mg base 1 C_Blend "is_constant" ["self"] (spIsC C_Blend) := ⟨⟨p_Blend_is_constant, f_Blend_is_constant, _, ⟨pa_Blend_is_constant, pb_Blend_is_constant, pc_Blend_is_constant, ⟨_, pd_Blend_is_constant⟩⟩, ok_isc F_Blend_is_constant T, b_Blend_is_constant⟩, cB⟩
  have gS : KU.CalleeGM l.prog w K mg base 1 C_Blend "sources" ["self"] (spSrc C_Blend) := ⟨⟨_, _, ok_src l_Blend_sources c_Blend_sources T, ⟨a_Blend_sources, i_Blend_sources, k_Blend_sources⟩, b_Blend_sources⟩, cB⟩
  have okK : FnOk l.prog w K mg base (L2.CX l.prog w) 8 f_Blend_constant _ ["cls", "width", "value"] (spConst C_Blend e0 e2) := ok_const F_Blend_constant T cN1 cD ci
  have cmC : KP.CalleeC l.prog w K mg base (L2.CX l.prog w) 8 C_Blend "constant" (spConst C_Blend e0 e2) := ⟨⟨_, p_Blend_constant, f_Blend_constant, ⟨rdB, gaB⟩, ⟨a_Blend_constant, ⟨_, rc_Blend_constant⟩, fi_Blend_constant⟩, fnR_of okK b_Blend_constant⟩⟩
  have tyB : ∀ {H : Hp} {a dx : Addr} {fs : List (Str × V)}, H a = some (.ins C_Blend dx fs) → TyX K H (.ref a) (.ref C_Blend) := fun e => .base (.ins e cB tyc tyg tyt tym)
  have oe : OwnM l.prog w K mg base 1 C_Blend "__eq__" ["self", "other"] (spBEq K C_Blend) := ⟨⟨_, _, a_Blend___eq__, i_Blend___eq__, ok_beq F_Blend___eq__ T tyB tyi, b_Blend___eq__⟩⟩
  have on_ : OwnNe l.prog w K mg base 1 C_Blend ["self", "other"] (spBEq K C_Blend) := ⟨⟨_, _, ⟨⟨_, _, _, _, _, _, _, _, _, _, _, _, _, _, _, _, lkK.trans (congrArg some lkO), nsO K nsK, neq, nne⟩, ⟨_, l_Blend___eq__, foK⟩⟩, ok_beq F_Blend___eq__ T tyB tyi, b_Blend___eq__⟩⟩
  obtain ⟨ds3, vd3, bd3⟩ := FD.binds1 (ps := ["self", "width", "shift", "keep", "flip"]) 3 1 (by simp) rfl fun T kV doc pm an cdv ct us its hu hi => match us, its, hu, hi with
    | [_, _, _], [_, _, _], _, _ => ⟨_, rfl, rfl⟩
  have cd2 : KC.CalleeID l.prog w K mg base (L2.CX l.prog w) 6 C_Blend "Blend" ["self", "width", "shift", "keep", "flip"] (spBlend C_Blend e0 e3 e2) [.non, .int 0] := ⟨⟨_, _, ds3, okb, mkB, T.mg_Blend, bd3, vd3⟩⟩
  have okT : FnOk l.prog w K mg base (L2.CX l.prog w) 8 f_Blend_then _ ["self", "c"] (spThen C_Blend e0) := ok_then F_Blend_then T em0 cS ci
  have mtT : Meth K C_Blend "then" f_Blend_then := ⟨a_Blend_then, i_Blend_then, k_Blend_then⟩
  have cT : KB.CalleeM l.prog w K mg base (L2.CX l.prog w) 8 C_Blend "then" ["self", "c"] (spThen C_Blend e0) := ⟨⟨_, _, okT, mtT, b_Blend_then⟩, cB⟩
  have kT : KO.CalleeMK l.prog w K mg base 8 C_Blend "then" ["self", "c"] (quiet (spThen C_Blend e0)) 0 ["c"] gRev1 := ⟨⟨_, _, fun us ws => us ++ ws, ok_quiet okT, mtT, ⟨fun s us ws _ l1 l2 => .of_eq (match us, ws, l1, l2 with | [_], [_], _, _ => rfl), fun r1 r2 => r1.append r2⟩⟩, cB⟩
  have ock : KU.OwnCK l.prog w K mg base (L2.CX l.prog w) 6 C_Blend ["self", "value"] (spBCall C_Blend e2) ["value"] gRev1 := ⟨⟨_, _, fun us ws => us ++ ws, a_Blend___call__, i_Blend___call__, fnC, ok_bcall F_Blend___call__ T cD cS,
    ⟨fun s us ws _ l1 l2 => .of_eq (match us, ws, l1, l2 with | [_], [_], _, _ => rfl), fun r1 r2 => r1.append r2⟩⟩⟩
  have ckC : KU.CalleeCK l.prog w K mg base (L2.CX l.prog w) 8 C_Blend "constant" ["cls", "width", "value"] (spConst C_Blend e0 e2) 1 ["value", "width"] gRevC := ⟨⟨_, p_Blend_constant, f_Blend_constant, _, fun us ws => us ++ ws.reverse, ⟨rdB, gaB⟩, ⟨a_Blend_constant, ⟨_, rc_Blend_constant⟩, fi_Blend_constant⟩, okK,
    ⟨fun s us ws _ l1 l2 => .of_eq (match us, ws, l1, l2 with | [_], [_, _], _, _ => rfl), fun r1 r2 => r1.append (vals_rev r2)⟩⟩⟩
  have hS : KH.CalleeHM l.prog w K mg base 1 40 C_Blend "sources" ["self"] (spSrcH C_Blend) := ⟨⟨_, _, ok_srcH l_Blend_sources c_Blend_sources T, ⟨a_Blend_sources, i_Blend_sources, k_Blend_sources⟩, b_Blend_sources⟩, cB⟩
  have cbp : KB.Callee l.prog w K mg base (L2.CX l.prog w) 7 "blend_parting" ["b", "c"] (spBP C_Blend e0) := ⟨⟨_, _, ok_bp F_blend_parting T em0 oc, PySem.W.mg_of X G a_blend_parting, k_blend_parting, b_blend_parting⟩⟩
  have cd : KB.Callee l.prog w K mg base CX0 1 "_law_draw" ["_law_pen_here", "_law_many"] spDraw := ⟨⟨_, _, ok_draw F__law_draw T0, PySem.W.mg_of X G a__law_draw, k__law_draw, b__law_draw⟩⟩
  have cp : KB.Callee l.prog w K mg base CX0 1 "_law_pen" ["_law_script"] (spPen K) := ⟨⟨_, _, ok_pen F__law_pen T0, PySem.W.mg_of X G a__law_pen, k__law_pen, b__law_pen⟩⟩
  have cw : KB.Callee l.prog w K mg base CX0 2 "_law_word" ["_law_pen_here", "_law_wide"] spWord := ⟨⟨_, _, ok_word F__law_word T0 cd, PySem.W.mg_of X G a__law_word, k__law_word, b__law_word⟩⟩
  have cmk : KB.Callee l.prog w K mg base CX0 9 "_law_blend" ["_law_pen_here", "_law_wide"] (spMk C_Blend) := ⟨⟨_, _, ok_mk F__law_blend T ci cw cd, PySem.W.mg_of X G a__law_blend, k__law_blend, b__law_blend⟩⟩
  have cj : KB.Callee l.prog w K mg base CX0 4 "_law_joined" ["_law_first", "_law_second"] (spJoin C_Blend) := ⟨⟨_, _, ok_joined F__law_joined T hS, PySem.W.mg_of X G a__law_joined, k__law_joined, b__law_joined⟩⟩
  have cbh : KB.Callee l.prog w K mg base CX0 11 "_law_behind_right" ["_law_pen_here", "_law_blend_here"] (spBehind C_Blend) := ⟨⟨_, _, ok_behind F__law_behind_right T nfC cd1 bdand bdor bdxor bror brxor bdshl bdshr uB on_ oe cT cmC cw cd, PySem.W.mg_of X G a__law_behind_right, k__law_behind_right, b__law_behind_right⟩⟩
  have hc : HeardC K mg := ⟨⟨f__law_heard, _, _, _, _, _, _, _, _, _, PySem.W.mg_of X G a__law_heard, k__law_heard, l__law_heard, c__law_heard, b__law_heard⟩⟩
  exact ok_law (c := errsOf e0 e1 e2 e3 e4 e5) l_law c_law T TE EA0 hc (tb (cL, PL) (List.mem_singleton.mpr rfl)) nfC cd cw cp cmk cj cbh cbp orp on_ cT kT oc ock gS pI cd1 cd2 cmC ckC
end K04


open PySem PySem.W PyProof.Rows
set_option maxRecDepth 100000 in
set_option maxHeartbeats 0 in
theorem PySem.Challenge.cw_keptbits_k04_whole_blends_one_after_anot_holds : PySem.Challenge.rw_keptbits_k04_whole_blends_one_after_anot.Holds := by
  w_on; o_law; k_head; (case hw => w_witness2)
  k_fill
  refine KL.walkGT (l := PySem.Challenge.rw_keptbits_k04_whole_blends_one_after_anot) (n := 63) (k := 13) (x := "_law_script") (names := ["law"]) (sp := fun w cs => K04.spLaw _ cs) rfl (by decide) rfl ⟨rfl, by decide, by decide⟩ ?R (fun w h Y => PySem.W.km_in_of Y) ?F (fun _ _ a cs ns hl hT hS => ⟨a, ns, rfl, hS, hl, hT, fun _ => rfl⟩)
  case R => exact rfl
  case F =>
    intro w mg fa h KX G hmg
    refine' K04.all_mk KX G hmg ?aC_Blend ?pg_Blend ?hd_Blend ?po_Blend ?sa_Blend ?mk_Blend ?kc_Blend ?n_Blend_width ?n_Blend_shift ?n_Blend_keep ?n_Blend_flip ?a_is_integer ?l_is_integer ?c_is_integer ?k_is_integer ?a_need_width ?l_need_width ?c_need_width ?k_need_width ?a_ones ?l_ones ?c_ones ?k_ones ?a_is_word ?l_is_word ?c_is_word ?k_is_word ?a_need_word ?l_need_word ?c_need_word ?k_need_word ?a_shifted ?l_shifted ?c_shifted ?k_shifted ?a_need_step ?l_need_step ?c_need_step ?k_need_step ?a_Blend___init__ ?i_Blend___init__ ?l_Blend___init__ ?dt_Blend___init__ ?c_Blend___init__ ?k_Blend___init__ ?a_Blend_constant ?rc_Blend_constant ?fi_Blend_constant ?l_Blend_constant ?c_Blend_constant ?k_Blend_constant ?pa_Blend_is_constant ?pb_Blend_is_constant ?pc_Blend_is_constant ?pd_Blend_is_constant ?l_Blend_is_constant ?c_Blend_is_constant ?k_Blend_is_constant ?a_Blend___call__ ?i_Blend___call__ ?l_Blend___call__ ?c_Blend___call__ ?k_Blend___call__ ?a_Blend___and__ ?i_Blend___and__ ?l_Blend___and__ ?c_Blend___and__ ?k_Blend___and__ ?a_Blend___rand__ ?i_Blend___rand__ ?l_Blend___rand__ ?c_Blend___rand__ ?k_Blend___rand__ ?a_Blend___or__ ?i_Blend___or__ ?l_Blend___or__ ?c_Blend___or__ ?k_Blend___or__ ?a_Blend___ror__ ?i_Blend___ror__ ?l_Blend___ror__ ?c_Blend___ror__ ?k_Blend___ror__ ?a_Blend___xor__ ?i_Blend___xor__ ?l_Blend___xor__ ?c_Blend___xor__ ?k_Blend___xor__ ?a_Blend___rxor__ ?i_Blend___rxor__ ?l_Blend___rxor__ ?c_Blend___rxor__ ?k_Blend___rxor__ ?a_Blend___invert__ ?i_Blend___invert__ ?l_Blend___invert__ ?c_Blend___invert__ ?k_Blend___invert__ ?a_Blend___lshift__ ?i_Blend___lshift__ ?l_Blend___lshift__ ?c_Blend___lshift__ ?k_Blend___lshift__ ?a_Blend___rshift__ ?i_Blend___rshift__ ?l_Blend___rshift__ ?c_Blend___rshift__ ?k_Blend___rshift__ ?a_Blend___eq__ ?i_Blend___eq__ ?l_Blend___eq__ ?c_Blend___eq__ ?k_Blend___eq__ ?a_Blend___repr__ ?i_Blend___repr__ ?l_Blend___repr__ ?c_Blend___repr__ ?k_Blend___repr__ ?a_Blend_then ?i_Blend_then ?l_Blend_then ?c_Blend_then ?k_Blend_then ?a_Blend_sources ?i_Blend_sources ?l_Blend_sources ?c_Blend_sources ?k_Blend_sources ?a_moved ?l_moved ?c_moved ?k_moved ?a_blend_parting ?l_blend_parting ?c_blend_parting ?k_blend_parting ?a__law_pen ?l__law_pen ?c__law_pen ?k__law_pen ?a__law_draw ?l__law_draw ?c__law_draw ?k__law_draw ?a__law_word ?l__law_word ?c__law_word ?k__law_word ?a__law_heard ?l__law_heard ?c__law_heard ?k__law_heard ?a__law_blend ?l__law_blend ?c__law_blend ?k__law_blend ?a__law_joined ?l__law_joined ?c__law_joined ?k__law_joined ?a__law_behind_right ?l__law_behind_right ?c__law_behind_right ?k__law_behind_right ?a_law ?l_law ?c_law ?k_law ?tyg ?tyt ?aWd ?lWd ?aE0 ?xs0 ?xv0 ?lkE0 ?lkF0 ?rvE0 ?saE0 ?tyE0 ?kpE0 ?inE0 ?tiE0 ?lIK0 ?cIK0 ?lcd0 ?vsI0 ?fiI0 ?lcc0 ?sbI0 ?veI0 ?suI0 ?aE2 ?xs2 ?xv2 ?lkE2 ?lkF2 ?rvE2 ?saE2 ?tyE2 ?kpE2 ?inE2 ?tiE2 ?lIK2 ?cIK2 ?lcd2 ?vsI2 ?fiI2 ?lcc2 ?sbI2 ?veI2 ?suI2 ?aE3 ?xs3 ?xv3 ?lkE3 ?lkF3 ?rvE3 ?saE3 ?tyE3 ?kpE3 ?inE3 ?tiE3 ?lIK3 ?cIK3 ?lcd3 ?vsI3 ?fiI3 ?lcc3 ?sbI3 ?veI3 ?suI3 ?tpI ?opI ?fnC ?sfB ?sub_int ?sub_bool ?sub_dict ?rdB ?gaB ?d_and ?r_and ?d_or ?r_or ?d_xor ?r_xor ?d_shl ?r_shl ?q_shl ?d_shr ?r_shr ?q_shr ?tyc ?tym ?tyi ?lkK ?lkO ?nsK ?nsO ?neq ?nne ?foK ?nfC ?aB ?aE1 ?aE4 ?aE5 ?kt0_0 ?kt0_1 ?kt0_2 ?kt0_3 ?kt0_4 ?kt0_5 ?ktv0 ?exm0 ?xg0 ?xk0 ?xd0 ?xa0 ?xm0 ?tabL ?ntbL ?z_int ?z_bool ?z_abs ?z_len ?z_list ?z_str ?z_range ?z_isinstance ?z_repr ?z_sorted ?z_dict ?z_ValueError ?z_super
    (case aC_Blend => k_is)
    (case pg_Blend => k_is)
    (case hd_Blend => k_is)
    (case po_Blend => k_is)
    (case sa_Blend => k_is)
    (case mk_Blend => k_is)
    (case kc_Blend => k_is)
    (case n_Blend_width => k_is)
    (case n_Blend_shift => k_is)
    (case n_Blend_keep => k_is)
    (case n_Blend_flip => k_is)
    (case a_is_integer => k_is)
    (case l_is_integer => k_is)
    (case c_is_integer => k_is)
    (case k_is_integer => k_is)
    (case a_need_width => k_is)
    (case l_need_width => k_is)
    (case c_need_width => k_is)
    (case k_need_width => k_is)
    (case a_ones => k_is)
    (case l_ones => k_is)
    (case c_ones => k_is)
    (case k_ones => k_is)
    (case a_is_word => k_is)
    (case l_is_word => k_is)
    (case c_is_word => k_is)
    (case k_is_word => k_is)
    (case a_need_word => k_is)
    (case l_need_word => k_is)
    (case c_need_word => k_is)
    (case k_need_word => k_is)
    (case a_shifted => k_is)
    (case l_shifted => k_is)
    (case c_shifted => k_is)
    (case k_shifted => k_is)
    (case a_need_step => k_is)
    (case l_need_step => k_is)
    (case c_need_step => k_is)
    (case k_need_step => k_is)
    (case a_Blend___init__ => k_is)
    (case i_Blend___init__ => k_is)
    (case l_Blend___init__ => k_is)
    (case dt_Blend___init__ => k_is)
    (case c_Blend___init__ => k_is)
    (case k_Blend___init__ => k_is)
    (case a_Blend_constant => k_is)
    (case rc_Blend_constant => k_is)
    (case fi_Blend_constant => k_is)
    (case l_Blend_constant => k_is)
    (case c_Blend_constant => k_is)
    (case k_Blend_constant => k_is)
    (case pa_Blend_is_constant => k_is)
    (case pb_Blend_is_constant => k_is)
    (case pc_Blend_is_constant => k_is)
    (case pd_Blend_is_constant => k_is)
    (case l_Blend_is_constant => k_is)
    (case c_Blend_is_constant => k_is)
    (case k_Blend_is_constant => k_is)
    (case a_Blend___call__ => k_is)
    (case i_Blend___call__ => k_is)
    (case l_Blend___call__ => k_is)
    (case c_Blend___call__ => k_is)
    (case k_Blend___call__ => k_is)
    (case a_Blend___and__ => k_is)
    (case i_Blend___and__ => k_is)
    (case l_Blend___and__ => k_is)
    (case c_Blend___and__ => k_is)
    (case k_Blend___and__ => k_is)
    (case a_Blend___rand__ => k_is)
    (case i_Blend___rand__ => k_is)
    (case l_Blend___rand__ => k_is)
    (case c_Blend___rand__ => k_is)
    (case k_Blend___rand__ => k_is)
    (case a_Blend___or__ => k_is)
    (case i_Blend___or__ => k_is)
    (case l_Blend___or__ => k_is)
    (case c_Blend___or__ => k_is)
    (case k_Blend___or__ => k_is)
    (case a_Blend___ror__ => k_is)
    (case i_Blend___ror__ => k_is)
    (case l_Blend___ror__ => k_is)
    (case c_Blend___ror__ => k_is)
    (case k_Blend___ror__ => k_is)
    (case a_Blend___xor__ => k_is)
    (case i_Blend___xor__ => k_is)
    (case l_Blend___xor__ => k_is)
    (case c_Blend___xor__ => k_is)
    (case k_Blend___xor__ => k_is)
    (case a_Blend___rxor__ => k_is)
    (case i_Blend___rxor__ => k_is)
    (case l_Blend___rxor__ => k_is)
    (case c_Blend___rxor__ => k_is)
    (case k_Blend___rxor__ => k_is)
    (case a_Blend___invert__ => k_is)
    (case i_Blend___invert__ => k_is)
    (case l_Blend___invert__ => k_is)
    (case c_Blend___invert__ => k_is)
    (case k_Blend___invert__ => k_is)
    (case a_Blend___lshift__ => k_is)
    (case i_Blend___lshift__ => k_is)
    (case l_Blend___lshift__ => k_is)
    (case c_Blend___lshift__ => k_is)
    (case k_Blend___lshift__ => k_is)
    (case a_Blend___rshift__ => k_is)
    (case i_Blend___rshift__ => k_is)
    (case l_Blend___rshift__ => k_is)
    (case c_Blend___rshift__ => k_is)
    (case k_Blend___rshift__ => k_is)
    (case a_Blend___eq__ => k_is)
    (case i_Blend___eq__ => k_is)
    (case l_Blend___eq__ => k_is)
    (case c_Blend___eq__ => k_is)
    (case k_Blend___eq__ => k_is)
    (case a_Blend___repr__ => k_is)
    (case i_Blend___repr__ => k_is)
    (case l_Blend___repr__ => k_is)
    (case c_Blend___repr__ => k_is)
    (case k_Blend___repr__ => k_is)
    (case a_Blend_then => k_is)
    (case i_Blend_then => k_is)
    (case l_Blend_then => k_is)
    (case c_Blend_then => k_is)
    (case k_Blend_then => k_is)
    (case a_Blend_sources => k_is)
    (case i_Blend_sources => k_is)
    (case l_Blend_sources => k_is)
    (case c_Blend_sources => k_is)
    (case k_Blend_sources => k_is)
    (case a_moved => k_is)
    (case l_moved => k_is)
    (case c_moved => k_is)
    (case k_moved => k_is)
    (case a_blend_parting => k_is)
    (case l_blend_parting => k_is)
    (case c_blend_parting => k_is)
    (case k_blend_parting => k_is)
    (case a__law_pen => k_is)
    (case l__law_pen => k_is)
    (case c__law_pen => k_is)
    (case k__law_pen => k_is)
    (case a__law_draw => k_is)
    (case l__law_draw => k_is)
    (case c__law_draw => k_is)
    (case k__law_draw => k_is)
    (case a__law_word => k_is)
    (case l__law_word => k_is)
    (case c__law_word => k_is)
    (case k__law_word => k_is)
    (case a__law_heard => k_is)
    (case l__law_heard => k_is)
    (case c__law_heard => k_is)
    (case k__law_heard => k_is)
    (case a__law_blend => k_is)
    (case l__law_blend => k_is)
    (case c__law_blend => k_is)
    (case k__law_blend => k_is)
    (case a__law_joined => k_is)
    (case l__law_joined => k_is)
    (case c__law_joined => k_is)
    (case k__law_joined => k_is)
    (case a__law_behind_right => k_is)
    (case l__law_behind_right => k_is)
    (case c__law_behind_right => k_is)
    (case k__law_behind_right => k_is)
    (case a_law => k_is)
    (case l_law => k_is)
    (case c_law => k_is)
    (case k_law => k_is)
    (case tyg => k_is)
    (case tyt => k_is)
    (case aWd => k_is)
    (case lWd => k_is)
    (case aE0 => k_is)
    (case xs0 => exact rfl)
    (case xv0 => k_is)
    (case lkE0 => k_is)
    (case lkF0 => exact rfl)
    (case rvE0 => exact rfl)
    (case saE0 => k_is)
    (case tyE0 => exact rfl)
    (case kpE0 => k_is)
    (case inE0 => k_is)
    (case tiE0 => exact rfl)
    (case lIK0 => k_is)
    (case cIK0 => k_is)
    (case lcd0 => k_is)
    (case vsI0 => exact rfl)
    (case fiI0 => exact rfl)
    (case lcc0 => k_is)
    (case sbI0 => k_is)
    (case veI0 => k_is)
    (case suI0 => exact rfl)
    (case aE2 => k_is)
    (case xs2 => exact rfl)
    (case xv2 => k_is)
    (case lkE2 => k_is)
    (case lkF2 => exact rfl)
    (case rvE2 => exact rfl)
    (case saE2 => k_is)
    (case tyE2 => exact rfl)
    (case kpE2 => k_is)
    (case inE2 => k_is)
    (case tiE2 => exact rfl)
    (case lIK2 => k_is)
    (case cIK2 => k_is)
    (case lcd2 => k_is)
    (case vsI2 => exact rfl)
    (case fiI2 => exact rfl)
    (case lcc2 => k_is)
    (case sbI2 => k_is)
    (case veI2 => k_is)
    (case suI2 => exact rfl)
    (case aE3 => k_is)
    (case xs3 => exact rfl)
    (case xv3 => k_is)
    (case lkE3 => k_is)
    (case lkF3 => exact rfl)
    (case rvE3 => exact rfl)
    (case saE3 => k_is)
    (case tyE3 => exact rfl)
    (case kpE3 => k_is)
    (case inE3 => k_is)
    (case tiE3 => exact rfl)
    (case lIK3 => k_is)
    (case cIK3 => k_is)
    (case lcd3 => k_is)
    (case vsI3 => exact rfl)
    (case fiI3 => exact rfl)
    (case lcc3 => k_is)
    (case sbI3 => k_is)
    (case veI3 => k_is)
    (case suI3 => exact rfl)
    (case tpI => exact rfl)
    (case opI => k_is)
    (case fnC => exact rfl)
    (case sfB => exact rfl)
    (case sub_int => exact rfl)
    (case sub_bool => exact rfl)
    (case sub_dict => exact rfl)
    (case rdB => k_is)
    (case gaB => k_is)
    (case d_and => exact rfl)
    (case r_and => exact rfl)
    (case d_or => exact rfl)
    (case r_or => exact rfl)
    (case d_xor => exact rfl)
    (case r_xor => exact rfl)
    (case d_shl => exact rfl)
    (case r_shl => exact rfl)
    (case q_shl => first | exact .inl rfl | exact .inr ⟨_, rfl⟩)
    (case d_shr => exact rfl)
    (case r_shr => exact rfl)
    (case q_shr => first | exact .inl rfl | exact .inr ⟨_, rfl⟩)
    (case tyc => k_is)
    (case tym => k_is)
    (case tyi => exact rfl)
    (case lkK => k_is)
    (case lkO => exact rfl)
    (case nsK => k_is)
    (case nsO => (clear KX G hmg; intro K2 e; unfold PySem.W.nsOkIn; rw [e]; first | rfl | decide | simp))
    (case neq => k_is)
    (case nne => k_is)
    (case foK => exact rfl)
    (case nfC => exact rfl)
    (case aB => k_is)
    (case aE1 => k_is)
    (case aE4 => k_is)
    (case aE5 => k_is)
    (case kt0_0 => exact rfl)
    (case kt0_1 => exact rfl)
    (case kt0_2 => exact rfl)
    (case kt0_3 => exact rfl)
    (case kt0_4 => exact rfl)
    (case kt0_5 => exact rfl)
    (case ktv0 => exact rfl)
    (case exm0 => exact rfl)
    (case xg0 => k_is)
    (case xk0 => k_is)
    (case xd0 => k_is)
    (case xa0 => k_is)
    (case xm0 => k_is)
    (case tabL => exact rfl)
    (case ntbL => exact rfl)
    (case z_int => k_is)
    (case z_bool => k_is)
    (case z_abs => k_is)
    (case z_len => k_is)
    (case z_list => k_is)
    (case z_str => k_is)
    (case z_range => k_is)
    (case z_isinstance => k_is)
    (case z_repr => k_is)
    (case z_sorted => k_is)
    (case z_dict => k_is)
    (case z_ValueError => k_is)
    (case z_super => k_is)

